import PyProof.Rows.All
import Wide.All
import OpenK.AllK
import Wide.FinOn
import HandS.ForMost
import HandS.ForExc
import HandS.Flow
import HandS.TupAny
import HandS.IsInst
import HandS.CallSlots
import HandS.TryMany
import HandS.Deep
import HandS.Style
import HandS.Wide
import HandS.StrMore
import HandS.TupMul
import HandS.RaiseMore
import HandS.SortInts
import HandS.Codes
import PySem.Challenge.RW_heldpasts_k21_value_codes
set_option Elab.async false
set_option linter.all false
set_option maxRecDepth 100000
set_option autoImplicit false
/-! DL: a data layer of our own over the hand layer. D: data (tuples and frozen lists as values); slots of a frame; SRF: how frame and heap bear them. -/
namespace DL
open PySem PySem.Spec PyProof.Rows L2

inductive D where
  | non | bl (b : Bool) | int (i : Int) | str (x : Str)
  | tup (ds : List D) | lst (ds : List D) | ro (ds : List D) | dic (kvs : List (Key × D)) | raw (v : V) | slot (i : Nat)
  deriving Inhabited

/-- a thing in the heap that is known by a predicate of one's own -/
structure Abs where
  holds : Hp → Addr → (Addr → Prop) → Prop
  loc : ∀ {H H' : Hp} {a : Addr} {F : Addr → Prop}, holds H a F → (∀ b, F b → H' b = H b) → holds H' a F
  dom : ∀ {H : Hp} {a : Addr} {F : Addr → Prop} {b : Addr}, holds H a F → F b → ∃ o, H b = some o

/-- what a slot may own -/
inductive R where
  | lst (ds : List D) | dic (kvs : List (Key × D)) | abs (A : Abs)
inductive Slot where
  | no | val (d : D) | own (r : R) | bor (r : R)
abbrev Dl := List Slot

section
variable (K : PySem.W.Frag) (M : Addr → Prop) (H : Hp)
def KT (a : Addr) (xs : List V) : Prop := ∃ (o : Obj) (its : Array Value) (n : Nat), K.lookup a = some o ∧ o.cls = .type "tuple" ∧ o.data = .seq its n ∧ its.size ≤ sizeLine ∧ Vals xs its.toList
def KL (a : Addr) (xs : List V) : Prop := ∃ (o : Obj) (its : Array Value) (n : Nat), K.lookup a = some o ∧ o.cls = .type "list" ∧ o.dict = none ∧ o.data = .seq its n ∧ its.size ≤ sizeLine ∧ Vals xs its.toList
def TupAt (a : Addr) (xs : List V) : Prop := (Rd H a (.tup xs) ∧ ¬ M a) ∨ KT K a xs
def LstAt (a : Addr) (xs : List V) : Prop := H a = some (.lst xs) ∧ ¬ M a
/-- a list that is only read: the script, a list of the module -/
def RoAt (a : Addr) (xs : List V) : Prop := (Rd H a (.lst xs) ∧ ¬ M a) ∨ KL K a xs
mutual
inductive Rep : V → D → Prop
  | non : Rep .non .non
  | bl (b : Bool) : Rep (.bl b) (.bl b)
  | int (i : Int) : Rep (.int i) (.int i)
  | str (x : Str) : Rep (.str x) (.str x)
  | raw (v : V) : Rep v (.raw v)
  | tup {a : Addr} {vs : List V} {ds : List D} : TupAt K M H a vs → RepL vs ds → Rep (.ref a) (.tup ds)
  | lst {a : Addr} {vs : List V} {ds : List D} : LstAt M H a vs → RepL vs ds → Rep (.ref a) (.lst ds)
  | ro {a : Addr} {vs : List V} {ds : List D} : RoAt K M H a vs → RepL vs ds → Rep (.ref a) (.ro ds)
  | dic {a : Addr} {ks : List (Key × V)} {kvs : List (Key × D)} : H a = some (.dK ks) → ¬ M a → RepK ks kvs → Rep (.ref a) (.dic kvs)
inductive RepL : List V → List D → Prop
  | nil : RepL [] []
  | cons {v : V} {d : D} {vs : List V} {ds : List D} : Rep v d → RepL vs ds → RepL (v :: vs) (d :: ds)
inductive RepK : List (Key × V) → List (Key × D) → Prop
  | nil : RepK [] []
  | cons {k : Key} {v : V} {d : D} {vs : List (Key × V)} {ds : List (Key × D)} : Rep v d → RepK vs ds → RepK ((k, v) :: vs) ((k, d) :: ds)
end
end

/-- from M, H to M', H' what was not M's stands, and is not M''s -/
def Mv (M : Addr → Prop) (H : Hp) (M' : Addr → Prop) (H' : Hp) : Prop := ∀ b o, H b = some o → ¬ M b → H' b = some o ∧ ¬ M' b
theorem Mv.refl {M : Addr → Prop} {H : Hp} : Mv M H M H := fun _ _ e n => ⟨e, n⟩
theorem Mv.trans {M M1 M2 : Addr → Prop} {H H1 H2 : Hp} (a : Mv M H M1 H1) (b : Mv M1 H1 M2 H2) : Mv M H M2 H2 := fun c o e n => b c o (a c o e n).1 (a c o e n).2
section
variable {K : PySem.W.Frag} {M M' : Addr → Prop} {H H' : Hp}
theorem TupAt.mv {a : Addr} {xs : List V} (k : Mv M H M' H') (h : TupAt K M H a xs) : TupAt K M' H' a xs := by
  rcases h with ⟨h | ⟨o, h⟩, n⟩ | h
  · exact .inl ⟨.inl (k _ _ h n).1, (k _ _ h n).2⟩
  · exact .inl ⟨.inr ⟨o, (k _ _ h n).1⟩, (k _ _ h n).2⟩
  · exact .inr h
theorem LstAt.mv {a : Addr} {xs : List V} (k : Mv M H M' H') (h : LstAt M H a xs) : LstAt M' H' a xs := k _ _ h.1 h.2
theorem RoAt.mv {a : Addr} {xs : List V} (k : Mv M H M' H') (h : RoAt K M H a xs) : RoAt K M' H' a xs := by
  rcases h with ⟨h | ⟨o, h⟩, n⟩ | h
  · exact .inl ⟨.inl (k _ _ h n).1, (k _ _ h n).2⟩
  · exact .inl ⟨.inr ⟨o, (k _ _ h n).1⟩, (k _ _ h n).2⟩
  · exact .inr h
theorem TupAt.sq {a : Addr} {xs : List V} (h : TupAt K M H a xs) : SqT K H a xs := by
  rcases h with ⟨h, _⟩ | h
  · exact .inl h
  · exact .inr h
theorem LstAt.sq {a : Addr} {xs : List V} (h : LstAt M H a xs) : SqL K H a xs := SqL.of h.1
theorem RoAt.sq {a : Addr} {xs : List V} (h : RoAt K M H a xs) : SqL K H a xs := by
  rcases h with ⟨h, _⟩ | h
  · exact .inl h
  · exact .inr h
mutual
theorem Rep.mv (k : Mv M H M' H') : ∀ {v : V} {d : D}, Rep K M H v d → Rep K M' H' v d
  | _, _, .non => .non
  | _, _, .bl b => .bl b
  | _, _, .int i => .int i
  | _, _, .str x => .str x
  | _, _, .raw v => .raw v
  | _, _, .tup h l => .tup (h.mv k) (RepL.mv k l)
  | _, _, .lst h l => .lst (h.mv k) (RepL.mv k l)
  | _, _, .ro h l => .ro (h.mv k) (RepL.mv k l)
  | _, _, .dic h n l => .dic (k _ _ h n).1 (k _ _ h n).2 (RepK.mv k l)
theorem RepL.mv (k : Mv M H M' H') : ∀ {vs : List V} {ds : List D}, RepL K M H vs ds → RepL K M' H' vs ds
  | _, _, .nil => .nil
  | _, _, .cons h l => .cons (Rep.mv k h) (RepL.mv k l)
theorem RepK.mv (k : Mv M H M' H') : ∀ {vs : List (Key × V)} {ds : List (Key × D)}, RepK K M H vs ds → RepK K M' H' vs ds
  | _, _, .nil => .nil
  | _, _, .cons h l => .cons (Rep.mv k h) (RepK.mv k l)
end
theorem RepL.length : ∀ {vs : List V} {ds : List D}, RepL K M H vs ds → vs.length = ds.length
  | _, _, .nil => rfl
  | _, _, .cons _ l => by simp [RepL.length l]
theorem RepL.get : ∀ {vs : List V} {ds : List D} {i : Nat} {d : D}, RepL K M H vs ds → ds[i]? = some d → ∃ v, vs[i]? = some v ∧ Rep K M H v d
  | _, _, _, _, .nil, e => by simp at e
  | _, _, 0, _, .cons h _, e => by simp at e; subst e; exact ⟨_, rfl, h⟩
  | _, _, i + 1, d, .cons _ l, e => by
    obtain ⟨v, h1, h2⟩ := RepL.get (i := i) (d := d) l (by simpa using e)
    exact ⟨v, by simpa using h1, h2⟩
theorem RepL.getV : ∀ {vs : List V} {ds : List D} {i : Nat} {v : V}, RepL K M H vs ds → vs[i]? = some v → ∃ d, ds[i]? = some d ∧ Rep K M H v d
  | _, _, _, _, .nil, e => by simp at e
  | _, _, 0, _, .cons h _, e => by simp at e; subst e; exact ⟨_, rfl, h⟩
  | _, _, i + 1, v, .cons _ l, e => by
    obtain ⟨d, h1, h2⟩ := RepL.getV (i := i) (v := v) l (by simpa using e)
    exact ⟨d, by simpa using h1, h2⟩
theorem RepL.append : ∀ {vs ws : List V} {ds es : List D}, RepL K M H vs ds → RepL K M H ws es → RepL K M H (vs ++ ws) (ds ++ es)
  | _, _, _, _, .nil, s => s
  | _, _, _, _, .cons r t, s => .cons r (RepL.append t s)
theorem RepL.set {v : V} {d : D} (r : Rep K M H v d) : ∀ {vs : List V} {ds : List D} (i : Nat), RepL K M H vs ds → RepL K M H (vs.set i v) (ds.set i d)
  | _, _, _, .nil => .nil
  | _, _, 0, .cons _ t => .cons r t
  | _, _, i + 1, .cons q t => .cons q (RepL.set r i t)
theorem RepL.take : ∀ {vs : List V} {ds : List D} (n : Nat), RepL K M H vs ds → RepL K M H (vs.take n) (ds.take n)
  | _, _, 0, _ => by simp; exact .nil
  | _, _, _ + 1, .nil => .nil
  | _, _, n + 1, .cons r t => .cons r (RepL.take n t)
theorem RepL.drop : ∀ {vs : List V} {ds : List D} (n : Nat), RepL K M H vs ds → RepL K M H (vs.drop n) (ds.drop n)
  | _, _, 0, r => r
  | _, _, _ + 1, .nil => .nil
  | _, _, n + 1, .cons _ t => RepL.drop n t
theorem RepL.eraseIdx : ∀ {vs : List V} {ds : List D} (n : Nat), RepL K M H vs ds → RepL K M H (vs.eraseIdx n) (ds.eraseIdx n)
  | _, _, 0, .nil => .nil
  | _, _, _ + 1, .nil => .nil
  | _, _, 0, .cons _ t => t
  | _, _, n + 1, .cons r t => .cons r (RepL.eraseIdx n t)
theorem RepL.reverse : ∀ {vs : List V} {ds : List D}, RepL K M H vs ds → RepL K M H vs.reverse ds.reverse
  | _, _, .nil => .nil
  | _, _, .cons r t => by
    rw [List.reverse_cons, List.reverse_cons]
    exact RepL.append (RepL.reverse t) (.cons r .nil)
end

/-- the context of a body: the heap at its entry, what it borrows (by slot), what others own -/
structure Ctx where
  H0 : Hp
  B : Addr → Prop
  G : Addr → Prop
  bor : List (Nat × Addr)
abbrev Ctx.M (c : Ctx) (F : Nat → Addr → Prop) : Addr → Prop := fun b => c.G b ∨ ∃ i, F i b

def RAt (K : PySem.W.Frag) (M : Addr → Prop) (H : Hp) (a : Addr) (r : R) (F : Addr → Prop) : Prop :=
  match r with
  | .lst ds => ∃ vs, H a = some (.lst vs) ∧ RepL K M H vs ds ∧ ∀ b, F b ↔ b = a
  | .dic kvs => ∃ ks, H a = some (.dK ks) ∧ RepK K M H ks kvs ∧ ∀ b, F b ↔ b = a
  | .abs A => A.holds H a F
def IsRes (δ : Dl) (i : Nat) (r : R) : Prop := δ[i]? = some (Slot.own r) ∨ δ[i]? = some (Slot.bor r)
def RepO (K : PySem.W.Frag) (M : Addr → Prop) (σ : L2.St) (δ : Dl) (H : Hp) (v : V) (d : D) : Prop := (∃ i r, d = .slot i ∧ σ[i]? = some (some v) ∧ IsRes δ i r) ∨ Rep K M H v d

structure SRF (K : PySem.W.Frag) (c : Ctx) (F : Nat → Addr → Prop) (σ : L2.St) (δ : Dl) (τ : List (V × D)) (H : Hp) : Prop where
  len : σ.length = δ.length
  val : ∀ (i : Nat) (d : D), δ[i]? = some (Slot.val d) → ∃ v, σ[i]? = some (some v) ∧ Rep K (c.M F) H v d
  res : ∀ (i : Nat) (r : R), IsRes δ i r → ∃ a, σ[i]? = some (some (.ref a)) ∧ RAt K (c.M F) H a r (F i)
  off : ∀ (i : Nat) (b : Addr), F i b → ∃ r, IsRes δ i r
  dis : ∀ (i j : Nat) (b : Addr), F i b → F j b → i = j
  out : ∀ (i : Nat) (b : Addr), F i b → ¬ c.G b
  new : ∀ (i : Nat) (b : Addr), F i b → c.H0 b = none ∨ c.B b
  gdom : ∀ b : Addr, c.G b → (∃ o, c.H0 b = some o) ∧ ¬ c.B b
  keep : ∀ (b : Addr) (o : HO), c.H0 b = some o → ¬ c.B b → H b = some o
  bor : ∀ p ∈ c.bor, σ[p.1]? = some (some (.ref p.2)) ∧ ∃ r, δ[p.1]? = some (Slot.bor r)
  tmp : ∀ p ∈ τ, RepO K (c.M F) σ δ H p.1 p.2

section
variable {K : PySem.W.Frag} {c : Ctx} {F : Nat → Addr → Prop} {σ : L2.St} {δ : Dl} {τ : List (V × D)} {H : Hp}
theorem RAt.dom {M : Addr → Prop} {a b : Addr} {r : R} {F : Addr → Prop} (h : RAt K M H a r F) (hb : F b) : ∃ o, H b = some o := by
  cases r with
  | lst ds => obtain ⟨vs, e, _, f⟩ := h; exact ⟨_, by rw [(f b).mp hb]; exact e⟩
  | dic ds => obtain ⟨vs, e, _, f⟩ := h; exact ⟨_, by rw [(f b).mp hb]; exact e⟩
  | abs A => exact A.dom h hb
theorem RAt.mv {M M' : Addr → Prop} {H' : Hp} {a : Addr} {r : R} {F : Addr → Prop} (k : Mv M H M' H') (s : ∀ b, F b → H' b = H b) (h : RAt K M H a r F) : RAt K M' H' a r F := by
  cases r with
  | lst ds => obtain ⟨vs, e, l, f⟩ := h; exact ⟨vs, by rw [s a ((f a).mpr rfl)]; exact e, l.mv k, f⟩
  | dic ds => obtain ⟨vs, e, l, f⟩ := h; exact ⟨vs, by rw [s a ((f a).mpr rfl)]; exact e, l.mv k, f⟩
  | abs A => exact A.loc h s
theorem SRF.dom (S : SRF K c F σ δ τ H) : ∀ i b, F i b → ∃ o, H b = some o := fun i b h => by
  obtain ⟨r, hr⟩ := S.off i b h
  obtain ⟨a, _, q⟩ := S.res i r hr
  exact q.dom h
theorem SRF.mdom (S : SRF K c F σ δ τ H) {b : Addr} (h : c.M F b) : ∃ o, H b = some o := by
  rcases h with h | ⟨i, h⟩
  · obtain ⟨⟨o, e⟩, n⟩ := S.gdom b h
    exact ⟨o, S.keep b o e n⟩
  · exact S.dom i b h
theorem SRF.fresh (S : SRF K c F σ δ τ H) {p : Addr} (h : H p = none) : ¬ c.M F p := fun m => by
  obtain ⟨o, e⟩ := S.mdom m
  rw [h] at e
  cases e
theorem RepO.mv {M M' : Addr → Prop} {H' : Hp} {v : V} {d : D} (k : Mv M H M' H') (h : RepO K M σ δ H v d) : RepO K M' σ δ H' v d := by
  rcases h with h | h
  · exact .inl h
  · exact .inr (h.mv k)
/-- the heap changes outside of all resources -/
theorem SRF.frame {H' : Hp} (S : SRF K c F σ δ τ H) (k : ∀ b o, H b = some o → H' b = some o) : SRF K c F σ δ τ H' := by
  have km : Mv (c.M F) H (c.M F) H' := fun b o e n => ⟨k b o e, n⟩
  refine ⟨S.len, fun i d e => ?_, fun i r e => ?_, S.off, S.dis, S.out, S.new, S.gdom, fun b o e n => k b o (S.keep b o e n), S.bor, fun p hp => (S.tmp p hp).mv km⟩
  · obtain ⟨v, h1, h2⟩ := S.val i d e
    exact ⟨v, h1, h2.mv km⟩
  · obtain ⟨a, h1, h2⟩ := S.res i r e
    refine ⟨a, h1, h2.mv km fun b hb => ?_⟩
    obtain ⟨o, q⟩ := S.dom i b hb
    rw [q]
    exact k b o q
theorem SRF.alloc {p : Addr} {o : HO} (S : SRF K c F σ δ τ H) (hp : H p = none) : SRF K c F σ δ τ (upd H p o) :=
  S.frame fun b u e => by rw [upd_ne (ne_of_none e hp)]; exact e
theorem mv_alloc {M : Addr → Prop} {p : Addr} {o : HO} (hp : H p = none) : Mv M H M (upd H p o) := fun b u e n => ⟨by rw [upd_ne (ne_of_none e hp)]; exact e, n⟩
theorem SRF.tmps {τ' : List (V × D)} (S : SRF K c F σ δ τ H) (h : ∀ p ∈ τ', RepO K (c.M F) σ δ H p.1 p.2) : SRF K c F σ δ τ' H :=
  ⟨S.len, S.val, S.res, S.off, S.dis, S.out, S.new, S.gdom, S.keep, S.bor, h⟩
theorem SRF.push {v : V} {d : D} (S : SRF K c F σ δ τ H) (h : RepO K (c.M F) σ δ H v d) : SRF K c F σ δ ((v, d) :: τ) H :=
  S.tmps fun p hp => by
    rcases List.mem_cons.mp hp with e | hp
    · rw [e]; exact h
    · exact S.tmp p hp
theorem SRF.drop {t : V × D} (S : SRF K c F σ δ (t :: τ) H) : SRF K c F σ δ τ H := S.tmps fun p hp => S.tmp p (List.mem_cons_of_mem _ hp)
theorem SRF.sub {τ' : List (V × D)} (S : SRF K c F σ δ τ H) (h : ∀ p ∈ τ', p ∈ τ) : SRF K c F σ δ τ' H := S.tmps fun p hp => S.tmp p (h p hp)
theorem SRF.top {v : V} {d : D} (S : SRF K c F σ δ ((v, d) :: τ) H) : RepO K (c.M F) σ δ H v d := S.tmp _ List.mem_cons_self
end

/-- what a reference to a slot stands for -/
def deref (δ : Dl) : D → D
  | .slot i => match δ[i]? with
    | some (.own (.lst ds)) => .lst ds
    | some (.bor (.lst ds)) => .lst ds
    | some (.own (.dic ds)) => .dic ds
    | some (.bor (.dic ds)) => .dic ds
    | _ => .slot i
  | d => d

/-- a readable operand: the top's own address may be owned -/
inductive RepR (K : PySem.W.Frag) (M : Addr → Prop) (H : Hp) : V → D → Prop
  | of {v : V} {d : D} : Rep K M H v d → RepR K M H v d
  | lst {a : Addr} {vs : List V} {ds : List D} : H a = some (.lst vs) → RepL K M H vs ds → RepR K M H (.ref a) (.lst ds)
  | dic {a : Addr} {ks : List (Key × V)} {kvs : List (Key × D)} : H a = some (.dK ks) → RepK K M H ks kvs → RepR K M H (.ref a) (.dic kvs)
section
variable {K : PySem.W.Frag} {M : Addr → Prop} {H : Hp} {v : V}
theorem RepR.lstE {ds : List D} (h : RepR K M H v (.lst ds)) : ∃ a vs, v = .ref a ∧ H a = some (.lst vs) ∧ RepL K M H vs ds := by
  cases h with
  | of h => cases h with | lst h l => exact ⟨_, _, rfl, h.1, l⟩
  | lst h l => exact ⟨_, _, rfl, h, l⟩
theorem RepR.roE {ds : List D} (h : RepR K M H v (.ro ds)) : ∃ a vs, v = .ref a ∧ SqL K H a vs ∧ RepL K M H vs ds := by
  cases h with
  | of h => cases h with | ro h l => exact ⟨_, _, rfl, h.sq, l⟩
theorem RepR.tupE {ds : List D} (h : RepR K M H v (.tup ds)) : ∃ a vs, v = .ref a ∧ SqT K H a vs ∧ RepL K M H vs ds := by
  cases h with
  | of h => cases h with | tup h l => exact ⟨_, _, rfl, h.sq, l⟩
theorem RepR.dicE {ds : List (Key × D)} (h : RepR K M H v (.dic ds)) : ∃ a ks, v = .ref a ∧ H a = some (.dK ks) ∧ RepK K M H ks ds := by
  cases h with
  | of h => cases h with | dic h n l => exact ⟨_, _, rfl, h, l⟩
  | dic h l => exact ⟨_, _, rfl, h, l⟩
theorem RepR.intE {i : Int} (h : RepR K M H v (.int i)) : v = .int i := by cases h with | of h => cases h; rfl
theorem RepR.strE {x : Str} (h : RepR K M H v (.str x)) : v = .str x := by cases h with | of h => cases h; rfl
theorem RepR.blE {b : Bool} (h : RepR K M H v (.bl b)) : v = .bl b := by cases h with | of h => cases h; rfl
theorem RepR.nonE (h : RepR K M H v .non) : v = .non := by cases h with | of h => cases h; rfl
theorem RepR.rawE {u : V} (h : RepR K M H v (.raw u)) : v = u := by cases h with | of h => cases h; rfl
theorem RepR.noslot {i : Nat} (h : RepR K M H v (.slot i)) : False := by cases h with | of h => cases h
end
theorem SRF.opd {K : PySem.W.Frag} {c : Ctx} {F : Nat → Addr → Prop} {σ : L2.St} {δ : Dl} {τ : List (V × D)} {H : Hp} {v : V} {d : D} (S : SRF K c F σ δ τ H) (h : RepO K (c.M F) σ δ H v d) : (∃ i, deref δ d = .slot i) ∨ RepR K (c.M F) H v (deref δ d) := by
  rcases h with ⟨i, r0, rfl, e, _⟩ | h
  · unfold deref
    have go : ∀ r, IsRes δ i r → ∃ a, v = .ref a ∧ RAt K (c.M F) H a r (F i) := fun r hr => by
      obtain ⟨a, e2, q⟩ := S.res i r hr
      rw [e] at e2
      cases e2
      exact ⟨a, rfl, q⟩
    split
    · rename_i j q
      cases q
      split
      · rename_i ds q
        obtain ⟨a, rfl, vs, h1, h2, _⟩ := go _ (.inl q)
        exact .inr (.lst h1 h2)
      · rename_i ds q
        obtain ⟨a, rfl, vs, h1, h2, _⟩ := go _ (.inr q)
        exact .inr (.lst h1 h2)
      · rename_i ds q
        obtain ⟨a, rfl, vs, h1, h2, _⟩ := go _ (.inl q)
        exact .inr (.dic h1 h2)
      · rename_i ds q
        obtain ⟨a, rfl, vs, h1, h2, _⟩ := go _ (.inr q)
        exact .inr (.dic h1 h2)
      · exact .inl ⟨i, rfl⟩
    · rename_i q
      exact (q i rfl).elim
  · cases d with
    | slot i => cases h
    | _ => exact .inr (.of h)

/-! ### what an expression comes to -/
structure Ex where
  cls : Str
  flds : List (Str × D)
inductive Er (α : Type) where
  | ok (a : α) (δ : Dl) | exc (x : Ex) (δ : Dl) | stuck
def Er.bind {α β : Type} (m : Er α) (f : α → Dl → Er β) : Er β :=
  match m with
  | .ok a δ => f a δ
  | .exc x δ => .exc x δ
  | .stuck => .stuck
abbrev ME := Dl → Er D
abbrev MT := Dl → Er Bool
abbrev ML := Dl → Er (List D)
/-- an exception as it is borne: its class by the module's name, the fields of its own dict -/
def IsExc (K : PySem.W.Frag) (mg : Str → Option Value) (M : Addr → Prop) (H : Hp) (x : Ex) (cls : Value) (dx : Option Addr) : Prop :=
  (∃ C, mg x.cls = some (.ref C) ∧ cls = .ref C) ∧ (x.flds ≠ [] → ∃ a fs, dx = some a ∧ H a = some (.xd fs) ∧ ¬ M a ∧ ∀ f d, x.flds.lookup f = some d → ∃ v, fs.lookup f = some v ∧ Rep K M H v d)
/-- what must hold of an outcome -/
def Er.post {α : Type} (m : Er α) (k : α → Dl → Prop) (kx : Ex → Dl → Prop) : Prop :=
  match m with
  | .ok a δ => k a δ
  | .exc x δ => kx x δ
  | .stuck => False
theorem Er.post_bind {α β : Type} {m : Er α} {f : α → Dl → Er β} {k : β → Dl → Prop} {kx : Ex → Dl → Prop} : (m.bind f).post k kx = m.post (fun a δ => (f a δ).post k kx) kx := by
  cases m <;> rfl
theorem Er.post_mono {α : Type} {m : Er α} {k k' : α → Dl → Prop} {kx kx' : Ex → Dl → Prop} (h : m.post k kx) (hk : ∀ a δ, k a δ → k' a δ) (hx : ∀ x δ, kx x δ → kx' x δ) : m.post k' kx' := by
  cases m with
  | ok a δ => exact hk _ _ h
  | exc x δ => exact hx _ _ h
  | stuck => exact h
def kX (K : PySem.W.Frag) (mg : Str → Option Value) (c : Ctx) (W : WX) (σ : L2.St) (τ : List (V × D)) : Ex → Dl → Prop := fun x δ' => ∀ cls dx H' F', SRF K c F' σ δ' τ H' → IsExc K mg (c.M F') H' x cls dx → W cls dx σ H'
def zipT : List V → List D → List (V × D)
  | v :: vs, d :: ds => (v, d) :: zipT vs ds
  | _, _ => []
def tD (K : PySem.W.Frag) (mg : Str → Option Value) (c : Ctx) (W : WX) (m : ME) : TE := fun σ H Q => ∃ F δ τ, SRF K c F σ δ τ H ∧
  (m δ).post (fun d δ' => ∀ v H' F', SRF K c F' σ δ' ((v, d) :: τ) H' → Q v H') (kX K mg c W σ τ)
def tDT (K : PySem.W.Frag) (mg : Str → Option Value) (c : Ctx) (W : WX) (m : MT) : TT := fun σ H Q => ∃ F δ τ, SRF K c F σ δ τ H ∧
  (m δ).post (fun b δ' => ∀ H' F', SRF K c F' σ δ' τ H' → Q b H') (kX K mg c W σ τ)
def tDA (K : PySem.W.Frag) (mg : Str → Option Value) (c : Ctx) (W : WX) (m : ML) : TA := fun σ H Q => ∃ F δ τ, SRF K c F σ δ τ H ∧
  (m δ).post (fun ds δ' => ∀ vs H' F', vs.length = ds.length → SRF K c F' σ δ' (zipT vs ds ++ τ) H' → Q vs H') (kX K mg c W σ τ)
theorem kX.drop {K : PySem.W.Frag} {mg : Str → Option Value} {c : Ctx} {W : WX} {σ : L2.St} {τ : List (V × D)} {t : V × D} {x : Ex} {δ : Dl} (h : kX K mg c W σ τ x δ) : kX K mg c W σ (t :: τ) x δ := fun cls dx H' F' S i => h cls dx H' F' S.drop i
abbrev DE (X : Cx) (c : Ctx) (W : WX) (e : Expr) (m : ME) : Prop := PE X e (tD X.K X.mg c W m)
abbrev DT (X : Cx) (c : Ctx) (W : WX) (e : Expr) (m : MT) : Prop := PT X e (tDT X.K X.mg c W m)
abbrev DA (X : Cx) (c : Ctx) (W : WX) (es : List Expr) (m : ML) : Prop := PA X es (tDA X.K X.mg c W m)
theorem pe_imp {X : Cx} {e : Expr} {t t' : TE} (h : PE X e t) (k : ∀ σ H Q, t' σ H Q → t σ H Q) : PE X e t' := ⟨fun pins s σ H Q I q => h.run pins s σ H Q I (k σ H Q q)⟩
theorem pt_imp {X : Cx} {e : Expr} {t t' : TT} (h : PT X e t) (k : ∀ σ H Q, t' σ H Q → t σ H Q) : PT X e t' := ⟨fun pins s σ H Q I q => h.run pins s σ H Q I (k σ H Q q)⟩
theorem pa_imp {X : Cx} {e : List Expr} {t t' : TA} (h : PA X e t) (k : ∀ σ H Q, t' σ H Q → t σ H Q) : PA X e t' := ⟨fun pos pins s σ H Q I q => h.run pos pins s σ H Q I (k σ H Q q)⟩

end DL
set_option Elab.async false
set_option linter.all false
set_option maxRecDepth 100000
set_option autoImplicit false
/-! DL2: expressions. -/
namespace DL
open PySem PySem.Spec PyProof.Rows L2

/-! ### meanings -/
def optE {α : Type} (o : Option α) (δ : Dl) : Er α := match o with | some d => .ok d δ | none => .stuck
def mC (d : D) : ME := fun δ => .ok d δ
def mV (i : Nat) : ME := fun δ => match δ[i]? with
  | some (.val d) => .ok d δ
  | some (.own _) => .ok (.slot i) δ
  | some (.bor _) => .ok (.slot i) δ
  | _ => .stuck
def m1 (f : D → Option D) (ma : ME) : ME := fun δ => (ma δ).bind fun a δ1 => optE (f (deref δ1 a)) δ1
def m2 (f : D → D → Option D) (ma mb : ME) : ME := fun δ => (ma δ).bind fun a δ1 => (mb δ1).bind fun b δ2 => optE (f (deref δ2 a) (deref δ2 b)) δ2
def mNil : ML := fun δ => .ok [] δ
def mCons (ma : ME) (mr : ML) : ML := fun δ => (ma δ).bind fun a δ1 => (mr δ1).bind fun r δ2 => .ok (a :: r) δ2
def mA (f : List D → Option D) (ms : ML) : ME := fun δ => (ms δ).bind fun ds δ1 => optE (f (ds.map (deref δ1))) δ1
def mIf (t : MT) (ma mb : ME) : ME := fun δ => (t δ).bind fun k δ1 => if k = true then ma δ1 else mb δ1
def truD : D → Option Bool
  | .non => some false
  | .bl b => some b
  | .int i => some (i != 0)
  | .str y => if y.length ≤ sizeLine then some ((y.length : Int) != 0) else none
  | .tup ds => some (!ds.isEmpty)
  | .lst ds => some (!ds.isEmpty)
  | .ro ds => some (!ds.isEmpty)
  | .dic ds => some (!ds.isEmpty)
  | _ => none
def mT (m : ME) : MT := fun δ => (m δ).bind fun a δ1 => optE (truD (deref δ1 a)) δ1
def mOr (ma mb : ME) : ME := fun δ => (ma δ).bind fun a δ1 => (optE (truD (deref δ1 a)) δ1).bind fun k δ2 => if k = true then .ok a δ2 else mb δ2
def mAnd (ma mb : ME) : ME := fun δ => (ma δ).bind fun a δ1 => (optE (truD (deref δ1 a)) δ1).bind fun k δ2 => if k = true then mb δ2 else .ok a δ2
def mNot (ma : ME) : ME := fun δ => (ma δ).bind fun a δ1 => (optE (truD (deref δ1 a)) δ1).bind fun k δ2 => .ok (.bl (!k)) δ2
def mTOr (t u : MT) : MT := fun δ => (t δ).bind fun k δ1 => if k = true then .ok true δ1 else u δ1
def mTAnd (t u : MT) : MT := fun δ => (t δ).bind fun k δ1 => if k = true then u δ1 else .ok false δ1
def mTNot (t : MT) : MT := fun δ => (t δ).bind fun k δ1 => .ok (!k) δ1
def unslot1 : D → Bool
  | .slot _ => false
  | _ => true
def mTup (ms : ML) : ME := fun δ => (ms δ).bind fun ds δ1 => if ds.all unslot1 = true ∧ ds.length ≤ sizeLine then .ok (.tup ds) δ1 else .stuck
def mLst (ms : ML) : ME := fun δ => (ms δ).bind fun ds δ1 => if ds.all unslot1 = true ∧ ds.length ≤ sizeLine then .ok (.lst ds) δ1 else .stuck

section
variable {X : Cx} {c : Ctx} {W : WX} {e a b : Expr} {ma mb : ME} {pos : Pos}

theorem deref_ns {δ : Dl} {d : D} (h : unslot1 d = true) : deref δ d = d := by
  cases d <;> first | rfl | cases h
theorem RepO.rep {K : PySem.W.Frag} {M : Addr → Prop} {σ : L2.St} {δ : Dl} {H : Hp} {v : V} {d : D} (h : RepO K M σ δ H v d) (n : unslot1 d = true) : Rep K M H v d := by
  rcases h with ⟨i, r, rfl, _⟩ | h
  · cases n
  · exact h
/-- an operand is readable where a meaning is told of it -/
theorem opd_of {α : Type} {F : Nat → Addr → Prop} {σ : L2.St} {δ : Dl} {τ : List (V × D)} {H : Hp} {v : V} {d : D} {f : D → Option α} {r : α} (S : SRF X.K c F σ δ τ H) (h : RepO X.K (c.M F) σ δ H v d) (hf : ∀ i, f (.slot i) = none) (e : f (deref δ d) = some r) :
    RepR X.K (c.M F) H v (deref δ d) := by
  rcases S.opd h with ⟨i, q⟩ | q
  · rw [q, hf] at e; cases e
  · exact q

/-- one-place, two-place operations and calls by values -/
def Op1 (X : Cx) (c : Ctx) (r : V → Hp → VK → Prop) (f : D → Option D) : Prop := ∀ F σ δ τ H v a d Q, SRF X.K c F σ δ τ H → RepR X.K (c.M F) H v a → f a = some d → (∀ u H', SRF X.K c F σ δ τ H' → Rep X.K (c.M F) H' u d → Q u H') → r v H Q
def Op2 (X : Cx) (c : Ctx) (r : R2) (f : D → D → Option D) : Prop := ∀ F σ δ τ H v a w b d Q, SRF X.K c F σ δ τ H → RepR X.K (c.M F) H v a → RepR X.K (c.M F) H w b → f a b = some d → (∀ u H', SRF X.K c F σ δ τ H' → Rep X.K (c.M F) H' u d → Q u H') → r v w H Q
inductive RepRs (K : PySem.W.Frag) (M : Addr → Prop) (H : Hp) : List V → List D → Prop
  | nil : RepRs K M H [] []
  | cons {v : V} {d : D} {vs : List V} {ds : List D} : RepR K M H v d → RepRs K M H vs ds → RepRs K M H (v :: vs) (d :: ds)
def OpA (X : Cx) (c : Ctx) (r : List V → Hp → VK → Prop) (f : List D → Option D) : Prop := ∀ F σ δ τ H vs ds d Q, SRF X.K c F σ δ τ H → RepRs X.K (c.M F) H vs ds → f ds = some d → (∀ u H', SRF X.K c F σ δ τ H' → Rep X.K (c.M F) H' u d → Q u H') → r vs H Q
/-- f tells nothing of a slot's reference -/
def Ns1 (f : D → Option D) : Prop := ∀ i, f (.slot i) = none
def Ns2 (f : D → D → Option D) : Prop := (∀ i b, f (.slot i) b = none) ∧ ∀ i a, f a (.slot i) = none

theorem de_c {v : V} {d : D} (h : PE X e (tC v)) (r : ∀ M H, Rep X.K M H v d) : DE X c W e (mC d) := pe_imp h fun σ H Q ⟨F, δ, τ, S, h⟩ => h v H F (S.push (.inr (r _ _)))
theorem de_v {i : Nat} (h : PE X e (tVar i)) : DE X c W e (mV i) := pe_imp h fun σ H Q ⟨F, δ, τ, S, h⟩ => by
  unfold mV at h
  split at h
  · rename_i d q
    obtain ⟨v, e, r⟩ := S.val i d q
    exact ⟨v, e, h v H F (S.push (.inr r))⟩
  · rename_i r q
    obtain ⟨a, e, _⟩ := S.res i r (.inl q)
    exact ⟨_, e, h _ H F (S.push (.inl ⟨i, r, rfl, e, by first | exact .inl q | exact .inr q⟩))⟩
  · rename_i r q
    obtain ⟨a, e, _⟩ := S.res i r (.inr q)
    exact ⟨_, e, h _ H F (S.push (.inl ⟨i, r, rfl, e, by first | exact .inl q | exact .inr q⟩))⟩
  · exact h.elim

theorem m1_imp {r : V → Hp → VK → Prop} {f : D → Option D} (o : Op1 X c r f) (ns : Ns1 f) : ∀ σ H Q, tD X.K X.mg c W (m1 f ma) σ H Q → tUn r (tD X.K X.mg c W ma) σ H Q := fun σ H Q ⟨F, δ, τ, S, h⟩ => by
  unfold m1 at h
  rw [Er.post_bind] at h
  refine ⟨F, δ, τ, S, Er.post_mono h (fun d δ1 h v H1 F1 S1 => ?_) fun x δ' q => q⟩
  cases e : f (deref δ1 d) with
  | none => rw [e] at h; exact h.elim
  | some u =>
    rw [e] at h
    have R := opd_of (f := f) S1 S1.top ns e
    exact o F1 σ δ1 τ H1 v _ u Q S1.drop R e fun w H' S' r' => h w H' F1 (S'.push (.inr r'))
theorem m2_imp {r : R2} {f : D → D → Option D} (o : Op2 X c r f) (ns : Ns2 f) : ∀ σ H Q, tD X.K X.mg c W (m2 f ma mb) σ H Q → tOp r (tD X.K X.mg c W ma) (tD X.K X.mg c W mb) σ H Q := fun σ H Q ⟨F, δ, τ, S, h⟩ => by
  unfold m2 at h
  rw [Er.post_bind] at h
  refine ⟨F, δ, τ, S, Er.post_mono h (fun d δ1 h v H1 F1 S1 => ?_) fun x δ' q => q⟩
  rw [Er.post_bind] at h
  refine ⟨F1, δ1, (v, d) :: τ, S1, Er.post_mono h (fun d2 δ2 h w H2 F2 S2 => ?_) fun x δ' q => q.drop⟩
  cases e : f (deref δ2 d) (deref δ2 d2) with
  | none => rw [e] at h; exact h.elim
  | some u =>
    rw [e] at h
    have R2 := opd_of (f := f (deref δ2 d)) S2 S2.top (fun i => ns.2 i _) e
    have R1 := opd_of (f := fun z => f z (deref δ2 d2)) S2 S2.drop.top (fun i => ns.1 i _) e
    exact o F2 σ δ2 τ H2 v _ w _ u Q S2.drop.drop R1 R2 e fun w H' S' r' => h w H' F2 (S'.push (.inr r'))

theorem da_nil : DA X c W [] mNil := pa_imp pa_nil fun σ H Q ⟨F, δ, τ, S, h⟩ => h [] H F rfl S
theorem da_cons {es : List Expr} {ms : ML} (ha : DE X c W e ma) (hr : DA X c W es ms) (hs : starEach (e :: es) X.env = (false, eval e X.env) :: starEach es X.env := by rfl) : DA X c W (e :: es) (mCons ma ms) :=
  pa_imp (pa_cons ha hr hs) fun σ H Q ⟨F, δ, τ, S, h⟩ => by
    unfold mCons at h
    rw [Er.post_bind] at h
    refine ⟨F, δ, τ, S, Er.post_mono h (fun d δ1 h v H1 F1 S1 => ?_) fun x δ' q => q⟩
    rw [Er.post_bind] at h
    refine ⟨F1, δ1, (v, d) :: τ, S1, Er.post_mono h (fun ds δ2 h vs H2 F2 hl S2 => ?_) fun x δ' q => q.drop⟩
    refine h (v :: vs) H2 F2 (by simp [hl]) (S2.sub fun p hp => ?_)
    have hp : p ∈ (v, d) :: (zipT vs ds ++ τ) := hp
    rcases List.mem_cons.mp hp with e | hp
    · exact List.mem_append_right _ (by rw [e]; exact List.mem_cons_self)
    · rcases List.mem_append.mp hp with hp | hp
      · exact List.mem_append_left _ hp
      · exact List.mem_append_right _ (List.mem_cons_of_mem _ hp)
theorem repRs_of {F : Nat → Addr → Prop} {σ : L2.St} {δ : Dl} {τ : List (V × D)} {H : Hp} : ∀ {vs : List V} {ds : List D}, vs.length = ds.length → SRF X.K c F σ δ (zipT vs ds ++ τ) H → (∀ d ∈ ds.map (deref δ), unslot1 d = true) → RepRs X.K (c.M F) H vs (ds.map (deref δ))
  | [], [], _, _, _ => .nil
  | [], _ :: _, h, _, _ => by cases h
  | _ :: _, [], h, _, _ => by cases h
  | v :: vs, d :: ds, h, S, n => by
    have S' : SRF X.K c F σ δ ((v, d) :: (zipT vs ds ++ τ)) H := S
    refine .cons ?_ (repRs_of (by simpa using h) S'.drop fun d hd => n d (List.mem_cons_of_mem _ hd))
    have n0 := n (deref δ d) List.mem_cons_self
    rcases S'.opd S'.top with ⟨i, q⟩ | q
    · rw [q] at n0; cases n0
    · exact q
theorem repL_of {F : Nat → Addr → Prop} {σ : L2.St} {δ : Dl} {τ : List (V × D)} {H : Hp} : ∀ {vs : List V} {ds : List D}, vs.length = ds.length → SRF X.K c F σ δ (zipT vs ds ++ τ) H → ds.all unslot1 = true → RepL X.K (c.M F) H vs ds
  | [], [], _, _, _ => .nil
  | [], _ :: _, h, _, _ => by cases h
  | _ :: _, [], h, _, _ => by cases h
  | v :: vs, d :: ds, h, S, n => by
    have S' : SRF X.K c F σ δ ((v, d) :: (zipT vs ds ++ τ)) H := S
    rw [List.all_cons, Bool.and_eq_true] at n
    exact .cons (S'.top.rep n.1) (repL_of (by simpa using h) S'.drop n.2)
theorem SRF.pops {F : Nat → Addr → Prop} {σ : L2.St} {δ : Dl} {τ τ' : List (V × D)} {H : Hp} {K : PySem.W.Frag} (S : SRF K c F σ δ (τ' ++ τ) H) : SRF K c F σ δ τ H := S.sub fun p hp => List.mem_append_right _ hp
/-- f tells nothing where a slot's reference stands among the arguments -/
def NsA (f : List D → Option D) : Prop := ∀ ds d, f ds = some d → ∀ x ∈ ds, unslot1 x = true
theorem mA_imp {r : List V → Hp → VK → Prop} {f : List D → Option D} {ms : ML} (o : OpA X c r f) (ns : NsA f) : ∀ σ H Q, tD X.K X.mg c W (mA f ms) σ H Q → tCB r (tDA X.K X.mg c W ms) σ H Q := fun σ H Q ⟨F, δ, τ, S, h⟩ => by
  unfold mA at h
  rw [Er.post_bind] at h
  refine ⟨F, δ, τ, S, Er.post_mono h (fun ds δ1 h vs H1 F1 hl S1 => ?_) fun x δ' q => q⟩
  cases e : f (ds.map (deref δ1)) with
  | none => rw [e] at h; exact h.elim
  | some u =>
    rw [e] at h
    exact o F1 σ δ1 τ H1 vs _ u Q S1.pops (repRs_of hl S1 (ns _ _ e)) e fun w H' S' r' => h w H' F1 (S'.push (.inr r'))

theorem tru_of {K : PySem.W.Frag} {M : Addr → Prop} {H : Hp} {v : V} {d : D} {k : Bool} (h : RepR K M H v d) (e : truD d = some k) : TruV K v H k := by
  cases d with
  | non => rw [h.nonE]; exact (Option.some.inj e).symm
  | bl b => rw [h.blE]; exact (Option.some.inj e).symm
  | int i => rw [h.intE]; exact (Option.some.inj e).symm
  | str y =>
    rw [h.strE]
    have e : (if y.length ≤ sizeLine then some ((y.length : Int) != 0) else none) = some k := e
    split at e
    · rename_i hz; exact ⟨hz, (Option.some.inj e).symm⟩
    · cases e
  | tup ds =>
    obtain ⟨a, vs, rfl, hs, l⟩ := h.tupE
    refine .inr (.inl ⟨vs, hs, ?_⟩)
    have e : (!ds.isEmpty) = k := Option.some.inj e
    rw [← e]
    cases l <;> rfl
  | lst ds =>
    obtain ⟨a, vs, rfl, hs, l⟩ := h.lstE
    refine .inl ⟨vs, SqL.of hs, ?_⟩
    have e : (!ds.isEmpty) = k := Option.some.inj e
    rw [← e]
    cases l <;> rfl
  | ro ds =>
    obtain ⟨a, vs, rfl, hs, l⟩ := h.roE
    refine .inl ⟨vs, hs, ?_⟩
    have e : (!ds.isEmpty) = k := Option.some.inj e
    rw [← e]
    cases l <;> rfl
  | dic ds =>
    obtain ⟨a, vs, rfl, hs, l⟩ := h.dicE
    refine .inr (.inr ⟨vs, hs, ?_⟩)
    have e : (!ds.isEmpty) = k := Option.some.inj e
    rw [← e]
    cases l <;> rfl
  | raw u => cases e
  | slot i => cases e

/-- a part, its truth, then the rest -/
theorem tru_step {σ : L2.St} {τ : List (V × D)} {v : V} {d : D} {δ1 : Dl} {H1 : Hp} {F1 : Nat → Addr → Prop} {α : Type} {g : Bool → Dl → Er α} {k : α → Dl → Prop} {kx : Ex → Dl → Prop} (S1 : SRF X.K c F1 σ δ1 ((v, d) :: τ) H1)
    (h : ((optE (truD (deref δ1 d)) δ1).bind g).post k kx) : ∃ b, TruV X.K v H1 b ∧ (g b δ1).post k kx := by
  cases e : truD (deref δ1 d) with
  | none => rw [e] at h; exact h.elim
  | some b =>
    rw [e] at h
    exact ⟨b, tru_of (opd_of (f := truD) S1 S1.top (fun _ => rfl) e) e, h⟩
theorem de_or {rest : List Expr} (ha : DE X c W a ma) (hb : DE X c W (.BoolOp .Or (b :: rest) pos) mb) : DE X c W (.BoolOp .Or (a :: b :: rest) pos) (mOr ma mb) :=
  pe_imp (pe_orT ha hb) fun σ H Q ⟨F, δ, τ, S, h⟩ => by
    unfold mOr at h
    rw [Er.post_bind] at h
    refine ⟨F, δ, τ, S, Er.post_mono h (fun d δ1 h v H1 F1 S1 => ?_) fun x δ' q => q⟩
    obtain ⟨k, t, h⟩ := tru_step S1 h
    refine ⟨k, t, ?_⟩
    cases k with
    | true => exact iteT (h v H1 F1 S1)
    | false => exact iteF ⟨F1, δ1, τ, S1.drop, h⟩
theorem de_and {rest : List Expr} (ha : DE X c W a ma) (hb : DE X c W (.BoolOp .And (b :: rest) pos) mb) : DE X c W (.BoolOp .And (a :: b :: rest) pos) (mAnd ma mb) :=
  pe_imp (pe_andT ha hb) fun σ H Q ⟨F, δ, τ, S, h⟩ => by
    unfold mAnd at h
    rw [Er.post_bind] at h
    refine ⟨F, δ, τ, S, Er.post_mono h (fun d δ1 h v H1 F1 S1 => ?_) fun x δ' q => q⟩
    obtain ⟨k, t, h⟩ := tru_step S1 h
    refine ⟨k, t, ?_⟩
    cases k with
    | true => exact iteT ⟨F1, δ1, τ, S1.drop, h⟩
    | false => exact iteF (h v H1 F1 S1)
theorem de_one {op} (ha : DE X c W a ma) : DE X c W (.BoolOp op [a] pos) ma := pe_one ha
theorem de_not (ha : DE X c W a ma) : DE X c W (.UnaryOp .Not a pos) (mNot ma) :=
  pe_imp (pe_notT ha) fun σ H Q ⟨F, δ, τ, S, h⟩ => by
    unfold mNot at h
    rw [Er.post_bind] at h
    refine ⟨F, δ, τ, S, Er.post_mono h (fun d δ1 h v H1 F1 S1 => ?_) fun x δ' q => q⟩
    obtain ⟨k, t, h⟩ := tru_step S1 h
    exact ⟨k, t, h _ H1 F1 (S1.drop.push (.inr (.bl _)))⟩

/-! ### tests -/
theorem dt_tru (ha : DE X c W a ma) (he : ∀ whole, isTrue a X.env whole = (do let v ← whole; standAt a.pos; holding [v] (truthy v)) := by intro _; rfl) : DT X c W a (mT ma) :=
  pt_imp (pt_truth ha he) fun σ H Q ⟨F, δ, τ, S, h⟩ => by
    unfold mT at h
    rw [Er.post_bind] at h
    refine ⟨F, δ, τ, S, Er.post_mono h (fun d δ1 h v H1 F1 S1 => ?_) fun x δ' q => q⟩
    cases e : truD (deref δ1 d) with
    | none => rw [e] at h; exact h.elim
    | some b =>
      rw [e] at h
      exact ⟨b, tru_of (opd_of (f := truD) S1 S1.top (fun _ => rfl) e) e, h H1 F1 S1.drop⟩
abbrev DW (X : Cx) (c : Ctx) (W : WX) (e : Expr) (m : MT) : Prop := PW X e (tDT X.K X.mg c W m)
theorem pw_imp {t t' : TT} (h : PW X e t) (k : ∀ σ H Q, t' σ H Q → t σ H Q) : PW X e t' := ⟨fun whole pins s σ H Q I q => h.run whole pins s σ H Q I (k σ H Q q)⟩
theorem dw_and1 {ta : MT} (ha : DT X c W a ta) : DW X c W (.BoolOp .And [a] pos) ta := pw_and1 ha
theorem dw_or1 {ta : MT} (ha : DT X c W a ta) : DW X c W (.BoolOp .Or [a] pos) ta := pw_or1 ha
theorem dw_and {rest : List Expr} {ta tb : MT} (ha : DT X c W a ta) (hb : DW X c W (.BoolOp .And (b :: rest) pos) tb) : DW X c W (.BoolOp .And (a :: b :: rest) pos) (mTAnd ta tb) :=
  pw_imp (pw_and ha hb) fun σ H Q ⟨F, δ, τ, S, h⟩ => by
    unfold mTAnd at h
    rw [Er.post_bind] at h
    refine ⟨F, δ, τ, S, Er.post_mono h (fun k δ1 h H1 F1 S1 => ?_) fun x δ' q => q⟩
    cases k with
    | true => exact iteT ⟨F1, δ1, τ, S1, h⟩
    | false => exact iteF (h H1 F1 S1)
theorem dw_or {rest : List Expr} {ta tb : MT} (ha : DT X c W a ta) (hb : DW X c W (.BoolOp .Or (b :: rest) pos) tb) : DW X c W (.BoolOp .Or (a :: b :: rest) pos) (mTOr ta tb) :=
  pw_imp (pw_or ha hb) fun σ H Q ⟨F, δ, τ, S, h⟩ => by
    unfold mTOr at h
    rw [Er.post_bind] at h
    refine ⟨F, δ, τ, S, Er.post_mono h (fun k δ1 h H1 F1 S1 => ?_) fun x δ' q => q⟩
    cases k with
    | true => exact iteT (h H1 F1 S1)
    | false => exact iteF ⟨F1, δ1, τ, S1, h⟩
theorem dt_w {t : MT} (h : DW X c W e t) : DT X c W e t := h.pt
theorem dt_not {ta : MT} (ha : DT X c W a ta) : DT X c W (.UnaryOp .Not a pos) (mTNot ta) :=
  pt_imp (pt_not ha) fun σ H Q ⟨F, δ, τ, S, h⟩ => by
    unfold mTNot at h
    rw [Er.post_bind] at h
    exact ⟨F, δ, τ, S, h⟩
theorem de_if {t : Expr} {mt : MT} (ht : DT X c W t mt) (ha : DE X c W a ma) (hb : DE X c W b mb) : DE X c W (.IfExp t a b pos) (mIf mt ma mb) :=
  pe_imp (pe_ifExp ht ha hb) fun σ H Q ⟨F, δ, τ, S, h⟩ => by
    unfold mIf at h
    rw [Er.post_bind] at h
    refine ⟨F, δ, τ, S, Er.post_mono h (fun k δ1 h H1 F1 S1 => ?_) fun x δ' q => q⟩
    cases k with
    | true => exact iteT ⟨F1, δ1, τ, S1, h⟩
    | false => exact iteF ⟨F1, δ1, τ, S1, h⟩

/-! ### displays -/
theorem de_tup {es : List Expr} {ms : ML} {x1} (h : DA X c W es ms) : DE X c W (.Tuple es x1 pos) (mTup ms) :=
  pe_imp (pe_tup h) fun σ H Q ⟨F, δ, τ, S, h⟩ => by
    unfold mTup at h
    rw [Er.post_bind] at h
    refine ⟨F, δ, τ, S, Er.post_mono h (fun ds δ1 h vs H1 F1 hl S1 => ?_) fun x δ' q => q⟩
    split at h
    · rename_i hz
      refine ⟨by rw [hl]; exact hz.2, fun p hp => h _ _ F1 ((S1.pops.alloc hp).push (.inr (.tup (.inl ⟨.inl upd_same, S1.fresh hp⟩) ((repL_of hl S1 hz.1).mv (mv_alloc hp)))))⟩
    · exact h.elim
theorem de_lst {es : List Expr} {ms : ML} (h : DA X c W es ms) : DE X c W (.List es pos) (mLst ms) :=
  pe_imp (pe_lst h) fun σ H Q ⟨F, δ, τ, S, h⟩ => by
    unfold mLst at h
    rw [Er.post_bind] at h
    refine ⟨F, δ, τ, S, Er.post_mono h (fun ds δ1 h vs H1 F1 hl S1 => ?_) fun x δ' q => q⟩
    split at h
    · rename_i hz
      refine ⟨by rw [hl]; exact hz.2, fun p hp => h _ _ F1 ((S1.pops.alloc hp).push (.inr (.lst ⟨upd_same, S1.fresh hp⟩ ((repL_of hl S1 hz.1).mv (mv_alloc hp)))))⟩
    · exact h.elim
end
end DL
set_option Elab.async false
set_option linter.all false
set_option maxRecDepth 100000
set_option autoImplicit false
/-! DL3: slots set, owned things laid, lent and given back. -/
namespace DL
open PySem PySem.Spec PyProof.Rows L2

def fdel (F : Nat → Addr → Prop) (i : Nat) : Nat → Addr → Prop := fun j b => j ≠ i ∧ F j b
def fput (F : Nat → Addr → Prop) (i : Nat) (G : Addr → Prop) : Nat → Addr → Prop := fun j b => (j = i ∧ G b) ∨ (j ≠ i ∧ F j b)
def fcut (F : Nat → Addr → Prop) (n : Nat) : Nat → Addr → Prop := fun j b => j < n ∧ F j b
def isRes : Slot → Bool
  | .own _ => true
  | .bor _ => true
  | _ => false
section
variable {K : PySem.W.Frag} {c : Ctx} {F : Nat → Addr → Prop} {σ : L2.St} {δ : Dl} {τ : List (V × D)} {H : Hp}
theorem IsRes.lt {i : Nat} {r : R} (h : IsRes δ i r) : i < δ.length := by
  rcases h with h | h <;> exact (List.getElem?_eq_some_iff.mp h).1
theorem isRes_set {i j : Nat} {s : Slot} {r : R} (hs : isRes s = false) : IsRes (δ.set i s) j r ↔ j ≠ i ∧ IsRes δ j r := by
  unfold IsRes
  by_cases e : i = j
  · subst e
    by_cases hl : i < δ.length
    · rw [List.getElem?_set_self hl]
      constructor
      · intro h
        rcases h with h | h <;> (cases h; cases hs)
      · intro h
        exact (h.1 rfl).elim
    · rw [List.getElem?_eq_none (by simpa using hl)]
      constructor
      · intro h
        rcases h with h | h <;> cases h
      · intro h
        exact (h.1 rfl).elim
  · rw [List.getElem?_set_ne e]
    constructor
    · intro h
      exact ⟨fun q => e q.symm, h⟩
    · intro h
      exact h.2
theorem isRes_app {i : Nat} {s : Slot} {r : R} : IsRes (δ ++ [s]) i r ↔ (IsRes δ i r) ∨ (i = δ.length ∧ (s = .own r ∨ s = .bor r)) := by
  unfold IsRes
  by_cases h : i < δ.length
  · rw [List.getElem?_append_left h]
    constructor
    · exact .inl
    · intro q
      rcases q with q | ⟨q, _⟩
      · exact q
      · omega
  · rw [List.getElem?_append_right (by omega)]
    by_cases e : i = δ.length
    · subst e
      simp only [Nat.sub_self, List.getElem?_cons_zero, Option.some.injEq]
      constructor
      · intro q
        exact .inr ⟨trivial, q⟩
      · intro q
        rcases q with q | ⟨_, q⟩
        · rw [List.getElem?_eq_none (by omega)] at q
          rcases q with q | q <;> cases q
        · exact q
    · have : i - δ.length ≠ 0 := by omega
      rw [List.getElem?_eq_none (by simp; omega), List.getElem?_eq_none (by omega)]
      constructor
      · intro q
        rcases q with q | q <;> cases q
      · intro q
        rcases q with q | ⟨q, _⟩
        · rcases q with q | q <;> cases q
        · omega
theorem mv_le {M M' : Addr → Prop} (h : ∀ b, M' b → M b) : Mv M H M' H := fun _ _ e n => ⟨e, fun q => n (h _ q)⟩
theorem RepO.st {M : Addr → Prop} {σ' : L2.St} {δ' : Dl} {v : V} {d : D} (h : RepO K M σ δ H v d) (hs : ∀ i r, d = .slot i → IsRes δ i r → σ'[i]? = σ[i]? ∧ ∃ r', IsRes δ' i r') : RepO K M σ' δ' H v d := by
  rcases h with ⟨i, r, e, q, n⟩ | h
  · obtain ⟨h1, r', h2⟩ := hs i r e n
    exact .inl ⟨i, r', e, h1.trans q, h2⟩
  · exact .inr h
theorem SRF.set {i : Nat} {s : Slot} {o : Option V} (S : SRF K c F σ δ τ H) (hi : i < δ.length) (nb : ∀ r, δ[i]? ≠ some (Slot.bor r)) (hτ : ∀ p ∈ τ, p.2 ≠ .slot i)
    (hs : s = .no ∨ ∃ v d, o = some v ∧ s = .val d ∧ Rep K (c.M F) H v d) : SRF K c (fdel F i) (σ.set i o) (δ.set i s) τ H := by
  have hr : isRes s = false := by rcases hs with rfl | ⟨_, _, _, rfl, _⟩ <;> rfl
  have hσ : i < σ.length := by rw [S.len]; exact hi
  have le : ∀ b, c.M (fdel F i) b → c.M F b := fun b h => by
    rcases h with h | ⟨j, _, h⟩
    · exact .inl h
    · exact .inr ⟨j, h⟩
  have km := mv_le (H := H) le
  refine ⟨by simp [S.len], fun j d e => ?_, fun j r e => ?_, fun j b h => ?_, fun j k b h h' => S.dis j k b h.2 h'.2, fun j b h => S.out j b h.2, fun j b h => S.new j b h.2, S.gdom, S.keep, fun p hp => ?_, fun p hp => ?_⟩
  · by_cases ij : i = j
    · subst ij
      rw [List.getElem?_set_self hi] at e
      cases e
      rcases hs with h | ⟨v, d', rfl, h, r⟩
      · cases h
      · cases h
        exact ⟨v, List.getElem?_set_self hσ, r.mv km⟩
    · rw [List.getElem?_set_ne ij] at e
      obtain ⟨v, h1, h2⟩ := S.val j d e
      exact ⟨v, by rw [List.getElem?_set_ne ij]; exact h1, h2.mv km⟩
  · obtain ⟨ij, e⟩ := (isRes_set hr).mp e
    obtain ⟨a, h1, h2⟩ := S.res j r e
    refine ⟨a, by rw [List.getElem?_set_ne (Ne.symm ij)]; exact h1, ?_⟩
    have q : (fdel F i) j = F j := by
      funext b
      exact propext ⟨fun h => h.2, fun h => ⟨ij, h⟩⟩
    rw [q]
    exact h2.mv km fun _ _ => rfl
  · obtain ⟨r, q⟩ := S.off j b h.2
    exact ⟨r, (isRes_set hr).mpr ⟨h.1, q⟩⟩
  · obtain ⟨h1, r, h2⟩ := S.bor p hp
    have ij : i ≠ p.1 := fun q => nb r (by rw [q]; exact h2)
    exact ⟨by rw [List.getElem?_set_ne ij]; exact h1, r, by rw [List.getElem?_set_ne ij]; exact h2⟩
  · refine ((S.tmp p hp).mv km).st fun j r e q => ?_
    have ij : j ≠ i := fun z => hτ p hp (by rw [e, z])
    exact ⟨List.getElem?_set_ne (Ne.symm ij), r, (isRes_set hr).mpr ⟨ij, q⟩⟩

/-- a new thing at p, as one more slot -/
theorem SRF.pushOwn {p : Addr} {o : HO} {r : R} (S : SRF K c F σ δ τ H) (hp : H p = none) (hr : ∀ M, Mv (c.M F) H M (upd H p o) → RAt K M (upd H p o) p r fun b => b = p) :
    SRF K c (fput F δ.length fun b => b = p) (σ ++ [some (.ref p)]) (δ ++ [.own r]) τ (upd H p o) := by
  have off : ∀ b, ¬ F δ.length b := fun b h => by
    obtain ⟨r, q⟩ := S.off _ _ h
    exact absurd q.lt (Nat.lt_irrefl _)
  have km : Mv (c.M F) H (c.M (fput F δ.length fun b => b = p)) (upd H p o) := fun b u e n => by
    have nb : b ≠ p := ne_of_none e hp
    refine ⟨by rw [upd_ne nb]; exact e, fun q => ?_⟩
    rcases q with q | ⟨j, ⟨_, q⟩ | ⟨_, q⟩⟩
    · exact n (.inl q)
    · exact nb q
    · exact n (.inr ⟨j, q⟩)
  have eF : ∀ j, j ≠ δ.length → (fput F δ.length fun b => b = p) j = F j := fun j hj => by
    funext b
    refine propext ⟨fun h => ?_, fun h => .inr ⟨hj, h⟩⟩
    rcases h with ⟨h, _⟩ | ⟨_, h⟩
    · exact (hj h).elim
    · exact h
  have pF : ∀ i b, F i b → b ≠ p := fun i b h q => by
    obtain ⟨o, e⟩ := S.dom i b h
    rw [q, hp] at e
    cases e
  have pG : ¬ c.G p := fun h => by
    obtain ⟨o, e⟩ := S.mdom (b := p) (.inl h)
    rw [hp] at e
    cases e
  refine ⟨by simp [S.len], fun j d e => ?_, fun j r' e => ?_, fun j b h => ?_, fun j k b h h' => ?_, fun j b h => ?_, fun j b h => ?_, S.gdom, fun b u e n => ?_, fun q hq => ?_, fun q hq => ?_⟩
  · by_cases hj : j < δ.length
    · rw [List.getElem?_append_left hj] at e
      obtain ⟨v, h1, h2⟩ := S.val j d e
      exact ⟨v, by rw [List.getElem?_append_left (by rw [S.len]; exact hj)]; exact h1, h2.mv km⟩
    · rw [List.getElem?_append_right (by omega)] at e
      cases h : j - δ.length with
      | zero => rw [h] at e; cases e
      | succ n => rw [h] at e; cases e
  · rcases isRes_app.mp e with h | ⟨h, h'⟩
    · obtain ⟨a, h1, h2⟩ := S.res j r' h
      refine ⟨a, by rw [List.getElem?_append_left (by rw [S.len]; exact h.lt)]; exact h1, ?_⟩
      rw [eF j (Nat.ne_of_lt h.lt)]
      exact h2.mv km fun b hb => upd_ne (pF j b hb)
    · subst h
      rcases h' with h' | h' <;> cases h'
      refine ⟨p, by rw [List.getElem?_append_right (by rw [S.len]; exact Nat.le_refl _), S.len]; simp, ?_⟩
      have q : (fput F δ.length fun b => b = p) δ.length = fun b => b = p := by
        funext b
        refine propext ⟨fun h => ?_, fun h => .inl ⟨rfl, h⟩⟩
        rcases h with ⟨_, h⟩ | ⟨h, _⟩
        · exact h
        · exact (h rfl).elim
      rw [q]
      exact hr _ km
  · rcases h with ⟨h, _⟩ | ⟨_, h⟩
    · exact ⟨r, isRes_app.mpr (.inr ⟨h, .inl rfl⟩)⟩
    · obtain ⟨r', q⟩ := S.off j b h
      exact ⟨r', isRes_app.mpr (.inl q)⟩
  · rcases h with ⟨h, h1⟩ | ⟨_, h⟩
    · rcases h' with ⟨h', _⟩ | ⟨_, h'⟩
      · rw [h, h']
      · exact (pF k b h' h1).elim
    · rcases h' with ⟨h', h1⟩ | ⟨_, h'⟩
      · exact (pF j b h h1).elim
      · exact S.dis j k b h h'
  · rcases h with ⟨h, h1⟩ | ⟨_, h⟩
    · rw [h1]; exact pG
    · exact S.out j b h
  · rcases h with ⟨h, h1⟩ | ⟨_, h⟩
    · rw [h1]
      cases e : c.H0 p with
      | none => exact .inl rfl
      | some u =>
        refine .inr ?_
        apply Classical.byContradiction
        intro n
        have := S.keep p u e n
        rw [hp] at this
        cases this
    · exact S.new j b h
  · have q := S.keep b u e n
    rw [upd_ne (ne_of_none q hp)]
    exact q
  · obtain ⟨h1, r', h2⟩ := S.bor q hq
    have l : q.1 < δ.length := (List.getElem?_eq_some_iff.mp h2).1
    exact ⟨by rw [List.getElem?_append_left (by rw [S.len]; exact l)]; exact h1, r', by rw [List.getElem?_append_left l]; exact h2⟩
  · refine ((S.tmp q hq).mv km).st fun j r' e z => ?_
    exact ⟨List.getElem?_append_left (by rw [S.len]; exact z.lt), r', isRes_app.mpr (.inl z)⟩

/-- the last slot is dropped -/
theorem SRF.pop {o : Option V} {s : Slot} (S : SRF K c F (σ ++ [o]) (δ ++ [s]) τ H) (hb : ∀ r, s ≠ .bor r) (hτ : ∀ p ∈ τ, p.2 ≠ .slot δ.length) : SRF K c (fdel F δ.length) σ δ τ H := by
  have l0 : σ.length = δ.length := by have := S.len; simpa using this
  have le : ∀ b, c.M (fdel F δ.length) b → c.M F b := fun b h => by
    rcases h with h | ⟨j, _, h⟩
    · exact .inl h
    · exact .inr ⟨j, h⟩
  have km := mv_le (H := H) le
  have up : ∀ {j : Nat} {r : R}, IsRes δ j r → IsRes (δ ++ [s]) j r := fun h => isRes_app.mpr (.inl h)
  refine ⟨l0, fun j d e => ?_, fun j r e => ?_, fun j b h => ?_, fun j k b h h' => S.dis j k b h.2 h'.2, fun j b h => S.out j b h.2, fun j b h => S.new j b h.2, S.gdom, S.keep, fun p hp => ?_, fun p hp => ?_⟩
  · have hj : j < δ.length := (List.getElem?_eq_some_iff.mp e).1
    obtain ⟨v, h1, h2⟩ := S.val j d (by rw [List.getElem?_append_left hj]; exact e)
    rw [List.getElem?_append_left (by rw [l0]; exact hj)] at h1
    exact ⟨v, h1, h2.mv km⟩
  · obtain ⟨a, h1, h2⟩ := S.res j r (up e)
    rw [List.getElem?_append_left (by rw [l0]; exact e.lt)] at h1
    refine ⟨a, h1, ?_⟩
    have q : (fdel F δ.length) j = F j := by
      funext b
      exact propext ⟨fun h => h.2, fun h => ⟨Nat.ne_of_lt e.lt, h⟩⟩
    rw [q]
    exact h2.mv km fun _ _ => rfl
  · obtain ⟨r, q⟩ := S.off j b h.2
    rcases isRes_app.mp q with q | ⟨q, _⟩
    · exact ⟨r, q⟩
    · exact (h.1 q).elim
  · obtain ⟨h1, r, h2⟩ := S.bor p hp
    have l : p.1 < δ.length := by
      by_cases l : p.1 < δ.length
      · exact l
      · have l2 := (List.getElem?_eq_some_iff.mp h2).1
        rw [List.length_append, List.length_singleton] at l2
        have e : p.1 = δ.length := by omega
        rw [e, List.getElem?_append_right (Nat.le_refl _)] at h2
        simp at h2
        exact (hb r h2).elim
    rw [List.getElem?_append_left l] at h2
    rw [List.getElem?_append_left (by rw [l0]; exact l)] at h1
    exact ⟨h1, r, h2⟩
  · refine ((S.tmp p hp).mv km).st fun j r e q => ?_
    rcases isRes_app.mp q with q | ⟨q, _⟩
    · exact ⟨(List.getElem?_append_left (by rw [l0]; exact q.lt)).symm, r, q⟩
    · exact (hτ p hp (by rw [e, q])).elim

theorem zip_mem {M : Addr → Prop} {p : V × D} : ∀ {vs : List V} {ds : List D}, RepL K M H vs ds → p ∈ zipT vs ds → Rep K M H p.1 p.2
  | _, _, .nil, h => by cases h
  | _, _, .cons r l, h => by
    rcases List.mem_cons.mp h with e | h
    · rw [e]; exact r
    · exact zip_mem l h
theorem zip_rep {M : Addr → Prop} : ∀ {vs : List V} {ds : List D}, vs.length = ds.length → (∀ p ∈ zipT vs ds, Rep K M H p.1 p.2) → RepL K M H vs ds
  | [], [], _, _ => .nil
  | [], _ :: _, h, _ => by cases h
  | _ :: _, [], h, _ => by cases h
  | v :: vs, d :: ds, h, k => .cons (k (v, d) List.mem_cons_self) (zip_rep (by simpa using h) fun p hp => k p (List.mem_cons_of_mem _ hp))

/-- while a block runs: what the frame owns is borrowed, the new list at a is others' -/
def lendC (c : Ctx) (F : Nat → Addr → Prop) (H : Hp) (a : Addr) : Ctx := ⟨H, fun b => ∃ i, F i b, fun b => c.G b ∨ b = a, c.bor⟩
theorem SRF.lend {a : Addr} {ds : List D} (S : SRF K c F (σ ++ [some (.ref a)]) (δ ++ [.own (.lst ds)]) τ H) (hτ : ∀ p ∈ τ, p.2 ≠ .slot δ.length) :
    ∃ vs, H a = some (.lst vs) ∧ vs.length = ds.length ∧ SRF K (lendC c (fdel F δ.length) H a) (fdel F δ.length) σ δ (zipT vs ds ++ τ) H := by
  have l0 : σ.length = δ.length := by have := S.len; simpa using this
  obtain ⟨a', h1, vs, h2, h3, h4⟩ := S.res δ.length (.lst ds) (isRes_app.mpr (.inr ⟨rfl, .inl rfl⟩))
  rw [List.getElem?_append_right (by rw [l0]; exact Nat.le_refl _), l0] at h1
  simp at h1
  subst h1
  have P := S.pop (fun r h => by cases h) hτ
  have Fa : F δ.length a := (h4 a).mpr rfl
  have km : Mv (c.M F) H ((lendC c (fdel F δ.length) H a).M (fdel F δ.length)) H := fun b o e n => ⟨e, fun q => by
    rcases q with (q | q) | ⟨j, _, q⟩
    · exact n (.inl q)
    · exact n (.inr ⟨_, by rw [q]; exact Fa⟩)
    · exact n (.inr ⟨j, q⟩)⟩
  refine ⟨vs, h2, h3.length, P.len, fun j d e => ?_, fun j r e => ?_, P.off, P.dis, fun j b h q => ?_, fun j b h => .inr ⟨j, h⟩, fun b h => ?_, fun b o e _ => e, P.bor, fun p hp => ?_⟩
  · have hj : j < δ.length := (List.getElem?_eq_some_iff.mp e).1
    obtain ⟨v, q1, q2⟩ := S.val j d (by rw [List.getElem?_append_left hj]; exact e)
    rw [List.getElem?_append_left (by rw [l0]; exact hj)] at q1
    exact ⟨v, q1, q2.mv km⟩
  · obtain ⟨b, q1, q2⟩ := S.res j r (isRes_app.mpr (.inl e))
    rw [List.getElem?_append_left (by rw [l0]; exact e.lt)] at q1
    refine ⟨b, q1, ?_⟩
    have q : (fdel F δ.length) j = F j := by
      funext b
      exact propext ⟨fun h => h.2, fun h => ⟨Nat.ne_of_lt e.lt, h⟩⟩
    rw [q]
    exact q2.mv km fun _ _ => rfl
  · rcases q with q | q
    · exact S.out j b h.2 q
    · rw [q] at h
      exact h.1 (S.dis j _ a h.2 Fa)
  · rcases h with h | h
    · refine ⟨S.mdom (.inl h), fun ⟨j, q⟩ => S.out j b q.2 h⟩
    · subst h
      exact ⟨⟨_, h2⟩, fun ⟨j, q⟩ => q.1 (S.dis j _ b q.2 Fa)⟩
  · rcases List.mem_append.mp hp with hp | hp
    · exact .inr ((zip_mem h3 hp).mv km)
    · refine ((S.tmp p hp).mv km).st fun j r e q => ?_
      rcases isRes_app.mp q with q | ⟨q, _⟩
      · exact ⟨(List.getElem?_append_left (by rw [l0]; exact q.lt)).symm, r, q⟩
      · exact (hτ p hp (by rw [e, q])).elim

theorem SRF.unlend {a : Addr} {ds ds2 : List D} {F2 : Nat → Addr → Prop} {σ2 : L2.St} {δ2 : Dl} {τ2 : List (V × D)} {H2 : Hp} {vs2 : List V} (S : SRF K c F (σ ++ [some (.ref a)]) (δ ++ [.own (.lst ds)]) τ H)
    (S2 : SRF K (lendC c (fdel F δ.length) H a) F2 σ2 δ2 τ2 H2) (hl : δ2.length = δ.length) (r : RepL K ((lendC c (fdel F δ.length) H a).M F2) H2 vs2 ds2) :
    SRF K c (fput F2 δ2.length fun b => b = a) (σ2 ++ [some (.ref a)]) (δ2 ++ [.own (.lst ds2)]) τ2 (upd H2 a (.lst vs2)) := by
  have l0 : σ.length = δ.length := by have := S.len; simpa using this
  obtain ⟨a', h1, vs, h2, h3, h4⟩ := S.res δ.length (.lst ds) (isRes_app.mpr (.inr ⟨rfl, .inl rfl⟩))
  rw [List.getElem?_append_right (by rw [l0]; exact Nat.le_refl _), l0] at h1
  simp at h1
  subst h1
  have Fa : F δ.length a := (h4 a).mpr rfl
  have na : ∀ j, ¬ F2 j a := fun j h => S2.out j a h (.inr rfl)
  have km : Mv ((lendC c (fdel F δ.length) H a).M F2) H2 (c.M (fput F2 δ2.length fun b => b = a)) (upd H2 a (.lst vs2)) := fun b o e n => by
    have nb : b ≠ a := fun q => n (.inl (.inr q))
    refine ⟨by rw [upd_ne nb]; exact e, fun q => ?_⟩
    rcases q with q | ⟨j, ⟨_, q⟩ | ⟨_, q⟩⟩
    · exact n (.inl (.inl q))
    · exact nb q
    · exact n (.inr ⟨j, q⟩)
  have eF : ∀ j, j ≠ δ2.length → (fput F2 δ2.length fun b => b = a) j = F2 j := fun j hj => by
    funext b
    refine propext ⟨fun h => ?_, fun h => .inr ⟨hj, h⟩⟩
    rcases h with ⟨h, _⟩ | ⟨_, h⟩
    · exact (hj h).elim
    · exact h
  refine ⟨by simp [S2.len], fun j d e => ?_, fun j r' e => ?_, fun j b h => ?_, fun j k b h h' => ?_, fun j b h => ?_, fun j b h => ?_, S.gdom, fun b u e n => ?_, fun q hq => ?_, fun q hq => ?_⟩
  · by_cases hj : j < δ2.length
    · rw [List.getElem?_append_left hj] at e
      obtain ⟨v, h1, h2⟩ := S2.val j d e
      exact ⟨v, by rw [List.getElem?_append_left (by rw [S2.len]; exact hj)]; exact h1, h2.mv km⟩
    · rw [List.getElem?_append_right (by omega)] at e
      cases h : j - δ2.length with
      | zero => rw [h] at e; cases e
      | succ n => rw [h] at e; cases e
  · rcases isRes_app.mp e with h | ⟨h, h'⟩
    · obtain ⟨b, q1, q2⟩ := S2.res j r' h
      refine ⟨b, by rw [List.getElem?_append_left (by rw [S2.len]; exact h.lt)]; exact q1, ?_⟩
      rw [eF j (Nat.ne_of_lt h.lt)]
      exact q2.mv km fun b hb => upd_ne fun q => na j (by rw [← q]; exact hb)
    · subst h
      rcases h' with h' | h' <;> cases h'
      refine ⟨a, by rw [List.getElem?_append_right (by rw [S2.len]; exact Nat.le_refl _), S2.len]; simp, vs2, upd_same, r.mv km, fun b => ?_⟩
      constructor
      · intro h
        rcases h with ⟨_, h⟩ | ⟨h, _⟩
        · exact h
        · exact (h rfl).elim
      · intro h
        exact .inl ⟨rfl, h⟩
  · rcases h with ⟨h, _⟩ | ⟨_, h⟩
    · exact ⟨_, isRes_app.mpr (.inr ⟨h, .inl rfl⟩)⟩
    · obtain ⟨r', q⟩ := S2.off j b h
      exact ⟨r', isRes_app.mpr (.inl q)⟩
  · rcases h with ⟨h, q1⟩ | ⟨_, h⟩
    · rcases h' with ⟨h', _⟩ | ⟨_, h'⟩
      · rw [h, h']
      · exact (na k (by rw [← q1]; exact h')).elim
    · rcases h' with ⟨h', q1⟩ | ⟨_, h'⟩
      · exact (na j (by rw [← q1]; exact h)).elim
      · exact S2.dis j k b h h'
  · rcases h with ⟨_, q1⟩ | ⟨_, h⟩
    · rw [q1]; exact S.out _ _ Fa
    · exact fun q => S2.out j b h (.inl q)
  · rcases h with ⟨_, q1⟩ | ⟨_, h⟩
    · rw [q1]; exact S.new _ _ Fa
    · rcases S2.new j b h with q | ⟨k, q⟩
      · have q : H b = none := q
        cases e : c.H0 b with
        | none => exact .inl rfl
        | some u =>
          refine .inr ?_
          apply Classical.byContradiction
          intro n
          have := S.keep b u e n
          rw [q] at this
          cases this
      · exact S.new k b q.2
  · have nb : b ≠ a := fun q => by
      rcases S.new _ _ Fa with z | z
      · rw [← q, e] at z; cases z
      · exact n (by rw [q]; exact z)
    rw [upd_ne nb]
    refine S2.keep b u (S.keep b u e n) fun ⟨k, q⟩ => ?_
    rcases S.new k b q.2 with z | z
    · rw [e] at z; cases z
    · exact n z
  · obtain ⟨h1, r', h2⟩ := S2.bor q hq
    have l : q.1 < δ2.length := (List.getElem?_eq_some_iff.mp h2).1
    exact ⟨by rw [List.getElem?_append_left (by rw [S2.len]; exact l)]; exact h1, r', by rw [List.getElem?_append_left l]; exact h2⟩
  · refine ((S2.tmp q hq).mv km).st fun j r' e z => ?_
    exact ⟨List.getElem?_append_left (by rw [S2.len]; exact z.lt), r', isRes_app.mpr (.inl z)⟩
theorem SRF.lent_at {a : Addr} {ds : List D} {F2 : Nat → Addr → Prop} {σ2 : L2.St} {δ2 : Dl} {τ2 : List (V × D)} {H2 : Hp} {vs : List V} (S : SRF K c F (σ ++ [some (.ref a)]) (δ ++ [.own (.lst ds)]) τ H) (h : H a = some (.lst vs))
    (S2 : SRF K (lendC c (fdel F δ.length) H a) F2 σ2 δ2 τ2 H2) : H2 a = some (.lst vs) := by
  have l0 : σ.length = δ.length := by have := S.len; simpa using this
  obtain ⟨a', h1, vs', h2, h3, h4⟩ := S.res δ.length (.lst ds) (isRes_app.mpr (.inr ⟨rfl, .inl rfl⟩))
  rw [List.getElem?_append_right (by rw [l0]; exact Nat.le_refl _), l0] at h1
  simp at h1
  subst h1
  exact S2.keep a _ h fun ⟨k, q⟩ => q.1 (S.dis k _ a q.2 ((h4 a).mpr rfl))
end
end DL
set_option Elab.async false
set_option linter.all false
set_option maxRecDepth 100000
set_option autoImplicit false
/-! DL4: what is walked, targets, comprehensions, statements. -/
namespace DL
open PySem PySem.Spec PyProof.Rows L2

/-! ### wiping -/
def wipeD (δ : Dl) : List Nat → Dl
  | [] => δ
  | v :: vs => (wipeD δ vs).set v .no
theorem wipeD_length (δ : Dl) : ∀ vs, (wipeD δ vs).length = δ.length
  | [] => rfl
  | v :: vs => by unfold wipeD; rw [List.length_set, wipeD_length δ vs]
def freeS (δ : Dl) (i : Nat) : Bool := match δ[i]? with
  | some .no => true
  | some (.val _) => true
  | _ => false
theorem wipe_get (σ : L2.St) (j : Nat) : ∀ vs : List Nat, (wipe σ vs)[j]? = if j ∈ vs then (σ[j]?).map (fun _ => none) else σ[j]?
  | [] => by simp [wipe]
  | v :: vs => by
    unfold wipe
    by_cases h : v = j
    · subst h
      rw [if_pos List.mem_cons_self]
      by_cases hl : v < σ.length
      · rw [List.getElem?_set_self (by rw [wipe_length]; exact hl), List.getElem?_eq_getElem hl]; rfl
      · rw [List.getElem?_eq_none (by rw [List.length_set, wipe_length]; omega), List.getElem?_eq_none (by omega)]; rfl
    · rw [List.getElem?_set_ne h, wipe_get σ j vs]
      have : j ∈ v :: vs ↔ j ∈ vs := by
        rw [List.mem_cons]
        constructor
        · rintro (q | q)
          · exact (h q.symm).elim
          · exact q
        · exact .inr
      simp only [this]
theorem wipe_set {σ : L2.St} {i : Nat} {o : Option V} {vs : List Nat} (h : i ∈ vs) : wipe (σ.set i o) vs = wipe σ vs := by
  apply List.ext_getElem?
  intro j
  rw [wipe_get, wipe_get]
  by_cases hj : j ∈ vs
  · rw [if_pos hj, if_pos hj]
    by_cases e : i = j
    · subst e
      by_cases hl : i < σ.length
      · rw [List.getElem?_set_self hl, List.getElem?_eq_getElem hl]; rfl
      · rw [List.getElem?_eq_none (by simpa using hl), List.getElem?_eq_none (by omega)]
    · rw [List.getElem?_set_ne e]
  · have e : i ≠ j := fun q => hj (by rw [← q]; exact h)
    rw [if_neg hj, if_neg hj, List.getElem?_set_ne e]
theorem wipe_wipe {σ : L2.St} {vs : List Nat} : wipe (wipe σ vs) vs = wipe σ vs := by
  apply List.ext_getElem?
  intro j
  rw [wipe_get, wipe_get]
  by_cases hj : j ∈ vs
  · rw [if_pos hj, if_pos hj]
    cases σ[j]? <;> rfl
  · rw [if_neg hj, if_neg hj]
theorem wipeD_get (δ : Dl) (j : Nat) : ∀ vs : List Nat, (wipeD δ vs)[j]? = if j ∈ vs then (δ[j]?).map (fun _ => Slot.no) else δ[j]?
  | [] => by simp [wipeD]
  | v :: vs => by
    unfold wipeD
    by_cases h : v = j
    · subst h
      rw [if_pos List.mem_cons_self]
      by_cases hl : v < δ.length
      · rw [List.getElem?_set_self (by rw [wipeD_length]; exact hl), List.getElem?_eq_getElem hl]; rfl
      · rw [List.getElem?_eq_none (by rw [List.length_set, wipeD_length]; omega), List.getElem?_eq_none (by omega)]; rfl
    · rw [List.getElem?_set_ne h, wipeD_get δ j vs]
      have : j ∈ v :: vs ↔ j ∈ vs := by
        rw [List.mem_cons]
        constructor
        · rintro (q | q)
          · exact (h q.symm).elim
          · exact q
        · exact .inr
      simp only [this]
section
variable {K : PySem.W.Frag} {c : Ctx} {F : Nat → Addr → Prop} {σ : L2.St} {δ : Dl} {τ : List (V × D)} {H : Hp}
theorem freeS_res {i : Nat} (h : freeS δ i = true) : ∀ r, ¬ IsRes δ i r := fun r q => by
  unfold freeS at h
  rcases q with q | q <;> (rw [q] at h; cases h)
theorem freeS_lt {i : Nat} (h : freeS δ i = true) : i < δ.length := by
  by_cases hl : i < δ.length
  · exact hl
  · unfold freeS at h
    rw [List.getElem?_eq_none (by omega)] at h
    cases h
theorem rep_ns {M : Addr → Prop} {v : V} {i : Nat} (h : Rep K M H v (.slot i)) : False := by
  generalize e : D.slot i = d at h
  cases h <;> cases e
theorem SRF.notSlot {i : Nat} (S : SRF K c F σ δ τ H) (h : freeS δ i = true) : ∀ p ∈ τ, p.2 ≠ .slot i := fun p hp e => by
  rcases S.tmp p hp with ⟨j, r, e2, _, q⟩ | q
  · rw [e] at e2
    cases e2
    exact freeS_res h r q
  · rw [e] at q
    exact rep_ns q
theorem SRF.wipes (S : SRF K c F σ δ τ H) : ∀ {vs : List Nat}, (∀ v ∈ vs, freeS δ v = true) → ∃ F', SRF K c F' (wipe σ vs) (wipeD δ vs) τ H
  | [], _ => ⟨F, S⟩
  | v :: vs, h => by
    obtain ⟨F', S'⟩ := S.wipes (vs := vs) fun w hw => h w (List.mem_cons_of_mem _ hw)
    have hv := h v List.mem_cons_self
    have f : freeS (wipeD δ vs) v = true := by
      unfold freeS
      rw [wipeD_get]
      by_cases m : v ∈ vs
      · rw [if_pos m, List.getElem?_eq_getElem (freeS_lt hv)]; rfl
      · rw [if_neg m]; exact hv
    exact ⟨_, S'.set (s := .no) (o := none) (freeS_lt f) (fun r q => freeS_res f r (.inr q)) (S'.notSlot f) (.inl rfl)⟩
/-- slots of which nothing is known may hold anything -/
theorem SRF.restate {σ' : L2.St} (S : SRF K c F σ δ τ H) (hl : σ'.length = σ.length) (h : ∀ i : Nat, δ[i]? ≠ some Slot.no → σ'[i]? = σ[i]?) : SRF K c F σ' δ τ H := by
  refine ⟨hl.trans S.len, fun i d e => ?_, fun i r e => ?_, S.off, S.dis, S.out, S.new, S.gdom, S.keep, fun p hp => ?_, fun p hp => (S.tmp p hp).st fun i r e q => ⟨?_, r, q⟩⟩
  · rw [h i (by rw [e]; intro z; cases z)]
    exact S.val i d e
  · rw [h i (by rcases e with e | e <;> (rw [e]; intro z; cases z))]
    exact S.res i r e
  · obtain ⟨h1, r, h2⟩ := S.bor p hp
    exact ⟨by rw [h p.1 (by rw [h2]; intro z; cases z)]; exact h1, r, h2⟩
  · exact h i (by rcases q with q | q <;> (rw [q]; intro z; cases z))
end

/-! ### what is walked -/
structure WalkOf (K : PySem.W.Frag) (J : It) (t : List (V × D)) (ds : List D) : Prop where
  uns : ∀ p ∈ t, unslot1 p.2 = true
  go : ∀ c F σ δ τ H i, SRF K c F σ δ (t ++ τ) H → i < ds.length → J.go i H
  stop : ∀ c F σ δ τ H, SRF K c F σ δ (t ++ τ) H → J.stop ds.length H
  yld : ∀ c F σ δ τ H i x H' d, SRF K c F σ δ (t ++ τ) H → ds[i]? = some d → J.yld i H x H' → SRF K c F σ δ (t ++ τ) H' ∧ Rep K (c.M F) H' x d
def tDI (K : PySem.W.Frag) (mg : Str → Option Value) (c : Ctx) (W : WX) (m : ML) : TI := fun σ H R => ∃ F δ τ, SRF K c F σ δ τ H ∧
  (m δ).post (fun ds δ' => ∀ J t H' F', SRF K c F' σ δ' (t ++ τ) H' → WalkOf K J t ds → R J H') (kX K mg c W σ τ)
abbrev DI (X : Cx) (c : Ctx) (W : WX) (tg e : Expr) (m : ML) : Prop := PI X tg e (tDI X.K X.mg c W m)
theorem pi_imp {X : Cx} {tg e : Expr} {t t' : TI} (h : PI X tg e t) (k : ∀ σ H R, t' σ H R → t σ H R) : PI X tg e t' := ⟨fun pins s σ H Q I q => h.run pins s σ H Q I (k σ H Q q)⟩
theorem pi_or {X : Cx} {tg e : Expr} {t t' : TI} (h : PI X tg e t) (h' : PI X tg e t') : PI X tg e (fun σ H R => t σ H R ∨ t' σ H R) := ⟨fun pins s σ H Q I q => by
  rcases q with q | q
  · exact h.run pins s σ H Q I q
  · exact h'.run pins s σ H Q I q⟩
def signs (x : Str) : List D := x.cps.toList.map fun k => .str ⟨#[k]⟩
def iterD : D → Option (List D)
  | .lst ds => some ds
  | .ro ds => some ds
  | .tup ds => some ds
  | .str x => some (signs x)
  | _ => none
def mIter (m : ME) : ML := fun δ => (m δ).bind fun a δ1 => optE (iterD a) δ1
theorem walk_list {K : PySem.W.Frag} {a : Addr} {ds : List D} : WalkOf K (Itl K a) [(.ref a, .lst ds)] ds where
  uns := fun p hp => by rw [List.mem_singleton.mp hp]; rfl
  go := fun c F σ δ τ H i S hi => by
    have r := (S.tmp _ List.mem_cons_self).rep rfl
    cases r with
    | lst h l => exact ⟨_, _, h.sq, List.getElem?_eq_getElem (by rw [l.length]; exact hi)⟩
  stop := fun c F σ δ τ H S => by
    have r := (S.tmp _ List.mem_cons_self).rep rfl
    cases r with
    | lst h l => exact ⟨_, h.sq, by rw [l.length]; exact Nat.le_refl _⟩
  yld := fun c F σ δ τ H i x H' d S e y => by
    obtain ⟨e1, y⟩ := y
    subst e1
    refine ⟨S, ?_⟩
    have r := (S.tmp _ List.mem_cons_self).rep rfl
    cases r with
    | lst h l =>
      obtain ⟨d', h1, h2⟩ := l.getV (y _ h.sq)
      rw [e] at h1
      cases h1
      exact h2
theorem walk_ro {K : PySem.W.Frag} {a : Addr} {ds : List D} : WalkOf K (Itl K a) [(.ref a, .ro ds)] ds where
  uns := fun p hp => by rw [List.mem_singleton.mp hp]; rfl
  go := fun c F σ δ τ H i S hi => by
    have r := (S.tmp _ List.mem_cons_self).rep rfl
    cases r with
    | ro h l => exact ⟨_, _, h.sq, List.getElem?_eq_getElem (by rw [l.length]; exact hi)⟩
  stop := fun c F σ δ τ H S => by
    have r := (S.tmp _ List.mem_cons_self).rep rfl
    cases r with
    | ro h l => exact ⟨_, h.sq, by rw [l.length]; exact Nat.le_refl _⟩
  yld := fun c F σ δ τ H i x H' d S e y => by
    obtain ⟨e1, y⟩ := y
    subst e1
    refine ⟨S, ?_⟩
    have r := (S.tmp _ List.mem_cons_self).rep rfl
    cases r with
    | ro h l =>
      obtain ⟨d', h1, h2⟩ := l.getV (y _ h.sq)
      rw [e] at h1
      cases h1
      exact h2
theorem walk_tup {K : PySem.W.Frag} {a : Addr} {ds : List D} : WalkOf K (Itt K a) [(.ref a, .tup ds)] ds where
  uns := fun p hp => by rw [List.mem_singleton.mp hp]; rfl
  go := fun c F σ δ τ H i S hi => by
    have r := (S.tmp _ List.mem_cons_self).rep rfl
    cases r with
    | tup h l => exact ⟨_, _, h.sq, List.getElem?_eq_getElem (by rw [l.length]; exact hi)⟩
  stop := fun c F σ δ τ H S => by
    have r := (S.tmp _ List.mem_cons_self).rep rfl
    cases r with
    | tup h l => exact ⟨_, h.sq, by rw [l.length]; exact Nat.le_refl _⟩
  yld := fun c F σ δ τ H i x H' d S e y => by
    obtain ⟨e1, y⟩ := y
    subst e1
    refine ⟨S, ?_⟩
    have r := (S.tmp _ List.mem_cons_self).rep rfl
    cases r with
    | tup h l =>
      obtain ⟨d', h1, h2⟩ := l.getV (y _ h.sq)
      rw [e] at h1
      cases h1
      exact h2
theorem signs_get {x : Str} {i : Nat} : (signs x)[i]? = (x.cps[i]?).map fun k => D.str ⟨#[k]⟩ := by
  unfold signs
  rw [List.getElem?_map, Array.getElem?_toList]
theorem walk_str {K : PySem.W.Frag} {x : Str} : WalkOf K (Its x) [] (signs x) where
  uns := fun p hp => by cases hp
  go := fun c F σ δ τ H i S hi => by
    have hi : i < x.cps.size := by unfold signs at hi; simpa using hi
    exact hi
  stop := fun c F σ δ τ H S => by
    show x.length ≤ (signs x).length
    unfold signs
    simp [Str.length]
  yld := fun c F σ δ τ H i y H' d S e q => by
    obtain ⟨e1, k, hk, e2⟩ := q
    subst e1 e2
    refine ⟨S, ?_⟩
    rw [signs_get, hk] at e
    cases e
    exact .str _
theorem di_seq {X : Cx} {c : Ctx} {W : WX} {tg e : Expr} {m : ME} (h : DE X c W e m) : DI X c W tg e (mIter m) := by
  refine pi_imp (pi_or (pi_list h) (pi_or (pi_tup h) (pi_str h))) fun σ H R ⟨F, δ, τ, S, h⟩ => ?_
  unfold mIter at h
  rw [Er.post_bind] at h
  cases e : m δ with
  | stuck => rw [e] at h; exact h.elim
  | exc x δ1 =>
    rw [e] at h
    refine .inl ⟨F, δ, τ, S, ?_⟩
    rw [e]
    exact h
  | ok d δ1 =>
    rw [e] at h
    have h : (optE (iterD d) δ1).post _ _ := h
    cases d with
    | lst ds =>
      refine .inl ⟨F, δ, τ, S, ?_⟩
      rw [e]
      intro v H1 F1 S1
      have r := S1.top.rep rfl
      have r' := r
      cases r with
      | lst q l => exact ⟨_, rfl, ⟨_, q.sq⟩, h _ _ _ F1 S1 walk_list⟩
    | ro ds =>
      refine .inl ⟨F, δ, τ, S, ?_⟩
      rw [e]
      intro v H1 F1 S1
      have r := S1.top.rep rfl
      cases r with
      | ro q l => exact ⟨_, rfl, ⟨_, q.sq⟩, h _ _ _ F1 S1 walk_ro⟩
    | tup ds =>
      refine .inr (.inl ⟨F, δ, τ, S, ?_⟩)
      rw [e]
      intro v H1 F1 S1
      have r := S1.top.rep rfl
      cases r with
      | tup q l => exact ⟨_, rfl, ⟨_, q.sq⟩, h _ _ _ F1 S1 walk_tup⟩
    | str x =>
      refine .inr (.inr ⟨F, δ, τ, S, ?_⟩)
      rw [e]
      intro v H1 F1 S1
      have r := S1.top.rep rfl
      cases r
      exact ⟨_, rfl, h _ [] _ F1 S1.drop walk_str⟩
    | _ => exact h.elim
def rngL (lo : Int) : Nat → List D
  | 0 => []
  | n + 1 => .int lo :: rngL (lo + 1) n
theorem rngL_length (lo : Int) (n : Nat) : (rngL lo n).length = n := by
  induction n generalizing lo with
  | zero => rfl
  | succ n ih => simp [rngL, ih]
theorem rngL_get {lo : Int} {n i : Nat} (h : i < n) : (rngL lo n)[i]? = some (.int (lo + i)) := by
  induction n generalizing lo i with
  | zero => omega
  | succ n ih =>
    cases i with
    | zero => simp [rngL]
    | succ i =>
      simp only [rngL, List.getElem?_cons_succ]
      rw [ih (by omega)]
      congr 2
      omega
theorem walk_rng {K : PySem.W.Frag} {lo : Int} {n : Nat} : WalkOf K (Itr lo n) [] (rngL lo n) where
  uns := fun p hp => by cases hp
  go := fun c F σ δ τ H i S hi => by rw [rngL_length] at hi; exact hi
  stop := fun c F σ δ τ H S => by
    show n ≤ (rngL lo n).length
    rw [rngL_length]; exact Nat.le_refl _
  yld := fun c F σ δ τ H i x H' d S e q => by
    obtain ⟨e1, e2⟩ := q
    subst e1 e2
    refine ⟨S, ?_⟩
    have hi : i < n := by have := (List.getElem?_eq_some_iff.mp e).1; rw [rngL_length] at this; exact this
    rw [rngL_get hi] at e
    cases e
    exact .int _
def rng1 : List D → Option (List D)
  | [.int j] => if -(2 ^ 62) ≤ j ∧ j < 2 ^ 62 then some (rngL 0 j.toNat) else none
  | _ => none
def rng2 : List D → Option (List D)
  | [.int i, .int j] => if -(2 ^ 62) ≤ i ∧ i < 2 ^ 62 ∧ -(2 ^ 62) ≤ j ∧ j < 2 ^ 62 then some (rngL i (j - i).toNat) else none
  | _ => none
def mIterA (f : List D → Option (List D)) (ms : ML) : ML := fun δ => (ms δ).bind fun ds δ1 => optE (f ds) δ1
theorem di_rng1 {X : Cx} {c : Ctx} {W : WX} {tg a : Expr} {ms : ML} {p pos : Pos} (hg : Gl X "range") (hm : X.mg "range" = none) (ha : DA X c W [a] ms) (hs : starEach [a] X.env = [(false, eval a X.env)] := by rfl) : DI X c W tg (.Call (.Name "range" p) [a] [] pos) (mIterA rng1 ms) := by
  refine pi_imp (pi_range1 hg hm ha hs) fun σ H R ⟨F, δ, τ, S, h⟩ => ?_
  unfold mIterA at h
  rw [Er.post_bind] at h
  refine ⟨F, δ, τ, S, Er.post_mono h (fun ds δ1 h vs H1 F1 hl S1 => ?_) fun _ _ q => q⟩
  cases e : rng1 ds with
  | none => rw [e] at h; exact h.elim
  | some l =>
    rw [e] at h
    unfold rng1 at e
    split at e
    · rename_i j
      split at e
      · rename_i hj
        cases e
        cases vs with
        | nil => cases hl
        | cons v vs =>
          cases vs with
          | cons _ _ => cases hl
          | nil =>
            have r := (S1.tmp (v, .int j) List.mem_cons_self).rep rfl
            cases r
            exact ⟨j, rfl, hj.1, hj.2, h _ [] H1 F1 S1.drop walk_rng⟩
      · cases e
    · cases e
theorem di_rng2 {X : Cx} {c : Ctx} {W : WX} {tg a b : Expr} {ms : ML} {p pos : Pos} (hg : Gl X "range") (hm : X.mg "range" = none) (ha : DA X c W [a, b] ms) (hs : starEach [a, b] X.env = [(false, eval a X.env), (false, eval b X.env)] := by rfl) (hs2 : starEach [b] X.env = [(false, eval b X.env)] := by rfl) : DI X c W tg (.Call (.Name "range" p) [a, b] [] pos) (mIterA rng2 ms) := by
  refine pi_imp (pi_range2 hg hm ha hs hs2) fun σ H R ⟨F, δ, τ, S, h⟩ => ?_
  unfold mIterA at h
  rw [Er.post_bind] at h
  refine ⟨F, δ, τ, S, Er.post_mono h (fun ds δ1 h vs H1 F1 hl S1 => ?_) fun _ _ q => q⟩
  cases e : rng2 ds with
  | none => rw [e] at h; exact h.elim
  | some l =>
    rw [e] at h
    unfold rng2 at e
    split at e
    · rename_i i j
      split at e
      · rename_i hj
        cases e
        match vs, hl with
        | [v, w], _ =>
          have r := (S1.tmp (v, .int i) List.mem_cons_self).rep rfl
          have r2 := (S1.tmp (w, .int j) (List.mem_cons_of_mem _ List.mem_cons_self)).rep rfl
          cases r
          cases r2
          exact ⟨i, j, rfl, hj, h _ [] H1 F1 S1.drop.drop walk_rng⟩
      · cases e
    · cases e

/-! ### targets -/
abbrev MG := D → Dl → Option Dl
def tDG (K : PySem.W.Frag) (g : MG) (is : List Nat) : TG := fun v σ H Q => ∃ c F δ τ d δ', SRF K c F σ δ τ H ∧ Rep K (c.M F) H v d ∧ (∀ p ∈ τ, ∀ i ∈ is, p.2 ≠ .slot i) ∧ g d δ = some δ' ∧
  ∀ σ' F', SRF K c F' σ' δ' τ H → (∀ vs, (∀ i ∈ is, i ∈ vs) → wipe σ' vs = wipe σ vs) → Q σ' H
def nobor (δ : Dl) (i : Nat) : Bool := match δ[i]? with
  | some (.bor _) => false
  | some _ => true
  | none => false
def gN (i : Nat) : MG := fun d δ => if nobor δ i = true ∧ unslot1 d = true then some (δ.set i (.val d)) else none
theorem nobor_lt {δ : Dl} {i : Nat} (h : nobor δ i = true) : i < δ.length := by
  by_cases hl : i < δ.length
  · exact hl
  · unfold nobor at h
    rw [List.getElem?_eq_none (by omega)] at h
    cases h
theorem nobor_ne {δ : Dl} {i : Nat} (h : nobor δ i = true) : ∀ r, δ[i]? ≠ some (Slot.bor r) := fun r q => by
  unfold nobor at h
  rw [q] at h
  cases h
def gTl : List Nat → List D → Dl → Option Dl
  | [], [], δ => some δ
  | i :: is, d :: ds, δ => (gN i d δ).bind (gTl is ds)
  | _, _, _ => none
def gT (is : List Nat) : MG := fun d δ => match d with
  | .tup ds => gTl is ds δ
  | .lst ds => none
  | _ => none
theorem gN_step {K : PySem.W.Frag} {c : Ctx} {F : Nat → Addr → Prop} {σ : L2.St} {δ δ' : Dl} {τ : List (V × D)} {H : Hp} {i : Nat} {v : V} {d : D} (S : SRF K c F σ δ τ H) (r : Rep K (c.M F) H v d) (hτ : ∀ p ∈ τ, p.2 ≠ .slot i) (e : gN i d δ = some δ') :
    SRF K c (fdel F i) (σ.set i (some v)) δ' τ H := by
  unfold gN at e
  split at e
  · rename_i h
    cases e
    exact S.set (nobor_lt h.1) (nobor_ne h.1) hτ (.inr ⟨v, d, rfl, rfl, r⟩)
  · cases e
abbrev DG (X : Cx) (tg : Expr) (g : MG) (is : List Nat) : Prop := PG X tg (tDG X.K g is)
theorem pg_imp {X : Cx} {tg : Expr} {t t' : TG} (h : PG X tg t) (k : ∀ v σ H Q, t' v σ H Q → t v σ H Q) : PG X tg t' := ⟨fun pins s σ H v u Q I r q => h.run pins s σ H v u Q I r (k v σ H Q q)⟩
theorem dg_name {X : Cx} {tg : Expr} {i : Nat} (h : PG X tg (gName i)) : DG X tg (gN i) [i] := pg_imp h fun v σ H Q ⟨c, F, δ, τ, d, δ', S, r, hτ, e, k⟩ =>
  k _ _ (gN_step S r (fun p hp => hτ p hp i List.mem_cons_self) e) fun vs h => wipe_set (h i List.mem_cons_self)
def gNs : List Nat → TGs
  | [] => gNil
  | i :: is => gCons (gName i) (gNs is)
theorem gTl_step {K : PySem.W.Frag} {c : Ctx} : ∀ {is : List Nat} {F : Nat → Addr → Prop} {σ : L2.St} {δ δ' : Dl} {τ : List (V × D)} {H : Hp} {vs : List V} {ds : List D} {Q : L2.St → Hp → Prop}, SRF K c F σ δ τ H → RepL K (c.M F) H vs ds → (∀ p ∈ τ, ∀ i ∈ is, p.2 ≠ .slot i) → gTl is ds δ = some δ' →
    (∀ σ' F', SRF K c F' σ' δ' τ H → (∀ vs, (∀ i ∈ is, i ∈ vs) → wipe σ' vs = wipe σ vs) → Q σ' H) → gNs is vs σ H Q
  | [], F, σ, δ, δ', τ, H, vs, ds, Q, S, r, hτ, e, k => by
    cases ds with
    | nil =>
      cases r
      cases e
      exact ⟨rfl, k _ _ S fun _ _ => rfl⟩
    | cons _ _ => cases e
  | i :: is, F, σ, δ, δ', τ, H, vs, ds, Q, S, r, hτ, e, k => by
    cases ds with
    | nil => cases e
    | cons d ds =>
      cases r with
      | @cons v _ vs _ r1 r2 =>
        have e : (gN i d δ).bind (gTl is ds) = some δ' := e
        cases e1 : gN i d δ with
        | none => rw [e1] at e; cases e
        | some δ1 =>
          rw [e1] at e
          have S1 := gN_step S r1 (fun p hp => hτ p hp i List.mem_cons_self) e1
          refine ⟨v, vs, rfl, gTl_step S1 (r2.mv (mv_le fun b h => ?_)) (fun p hp j hj => hτ p hp j (List.mem_cons_of_mem _ hj)) e fun σ' F' S' hw => k σ' F' S' fun ws h => ?_⟩
          · rcases h with h | ⟨j, _, h⟩
            · exact .inl h
            · exact .inr ⟨j, h⟩
          · rw [hw ws fun j hj => h j (List.mem_cons_of_mem _ hj)]
            exact wipe_set (h i List.mem_cons_self)
theorem dg_tup {X : Cx} {tg : Expr} {is : List Nat} (h : PG X tg (gTup X.K is.length (gNs is))) : DG X tg (gT is) is := pg_imp h fun v σ H Q ⟨c, F, δ, τ, d, δ', S, r, hτ, e, k⟩ => by
  cases d with
  | tup ds =>
    cases r with
    | tup q l =>
      refine ⟨_, _, rfl, q.sq, ?_, gTl_step S l hτ e k⟩
      rw [l.length]
      have go : ∀ {is : List Nat} {ds : List D} {δ : Dl}, gTl is ds δ = some δ' → ds.length = is.length := by
        intro is
        induction is with
        | nil =>
          intro ds δ e
          cases ds with
          | nil => rfl
          | cons _ _ => cases e
        | cons i is ih =>
          intro ds δ e
          cases ds with
          | nil => cases e
          | cons d ds =>
            have e : (gN i d δ).bind (gTl is ds) = some δ' := e
            cases e1 : gN i d δ with
            | none => rw [e1] at e; cases e
            | some δ1 =>
              rw [e1] at e
              simp [ih e]
      exact go e
  | _ => cases e

/-! ### comprehensions -/
def Er.bindN {α β : Type} (m : Er α) (f : α → Dl → Er β) : Er β :=
  match m with
  | .ok a δ => f a δ
  | _ => .stuck
theorem Er.post_bindN {α β : Type} {m : Er α} {f : α → Dl → Er β} {k : β → Dl → Prop} {kx : Ex → Dl → Prop} : (m.bindN f).post k kx ↔ m.post (fun a δ => (f a δ).post k kx) (fun _ _ => False) := by
  cases m <;> exact Iff.rfl
def W0 : WX := fun _ _ _ _ => False
def lcGo (vs : List Nat) (g : MG) (tt : MT) (el : ME) : List D → List D → Dl → Er (List D)
  | [], acc, δ => .ok acc δ
  | x :: xs, acc, δ => match g x δ with
    | none => .stuck
    | some δ1 => (tt δ1).bindN fun k δ2 => if k = true then
        (el δ2).bindN fun y δ3 => if unslot1 y = true ∧ acc.length < sizeLine ∧ vs.all (freeS δ3) = true ∧ δ3.length = δ.length then lcGo vs g tt el xs (acc ++ [y]) (wipeD δ3 vs) else .stuck
      else if vs.all (freeS δ2) = true ∧ δ2.length = δ.length then lcGo vs g tt el xs acc (wipeD δ2 vs) else .stuck
def mLc (vs : List Nat) (src : ML) (g : MG) (tt : MT) (el : ME) : Dl → Er R := fun δ => (src δ).bind fun ds δ1 =>
  if vs.all (freeS δ1) = true then (lcGo vs g tt el ds [] (wipeD δ1 vs)).bindN fun acc δ2 => if δ2.length = δ1.length then .ok (.lst acc) δ2 else .stuck else .stuck
/-- a value that is new, and nobody else's -/
def tF (K : PySem.W.Frag) (mg : Str → Option Value) (c : Ctx) (W : WX) (m : Dl → Er R) : TE := fun σ H Q => ∃ F δ τ, SRF K c F σ δ τ H ∧
  (m δ).post (fun r δ' => ∀ a H' F', δ'.length = δ.length → SRF K c F' (σ ++ [some (.ref a)]) (δ' ++ [.own r]) τ H' → Q (.ref a) H') (kX K mg c W σ τ)
abbrev DF (X : Cx) (c : Ctx) (W : WX) (e : Expr) (m : Dl → Er R) : Prop := PE X e (tF X.K X.mg c W m)
def tDx (K : PySem.W.Frag) (mg : Str → Option Value) (m : ME) : TE := fun σ H Q => ∃ c, tD K mg c W0 m σ H Q
def tDTx (K : PySem.W.Frag) (mg : Str → Option Value) (m : MT) : TT := fun σ H Q => ∃ c, tDT K mg c W0 m σ H Q
def mYes : MT := fun δ => .ok true δ
section
variable {K : PySem.W.Frag} {mg : Str → Option Value}
theorem repL_uns {M : Addr → Prop} {H : Hp} : ∀ {vs : List V} {ds : List D}, RepL K M H vs ds → ds.all unslot1 = true
  | _, _, .nil => rfl
  | _, _, .cons r l => by
    rw [List.all_cons, repL_uns l, Bool.and_true]
    cases r <;> rfl
theorem repL_tmp {c : Ctx} {F : Nat → Addr → Prop} {σ : L2.St} {δ : Dl} {τ : List (V × D)} {H : Hp} : ∀ {vs : List V} {ds : List D}, vs.length = ds.length → (∀ p ∈ zipT vs ds, p ∈ τ) → SRF K c F σ δ τ H → ds.all unslot1 = true → RepL K (c.M F) H vs ds
  | [], [], _, _, _, _ => .nil
  | [], _ :: _, h, _, _, _ => by cases h
  | _ :: _, [], h, _, _, _ => by cases h
  | v :: vs, d :: ds, h, hm, S, n => by
    rw [List.all_cons, Bool.and_eq_true] at n
    exact .cons ((S.tmp (v, d) (hm _ List.mem_cons_self)).rep n.1) (repL_tmp (by simpa using h) (fun p hp => hm p (List.mem_cons_of_mem _ hp)) S n.2)
theorem zip_uns {p : V × D} : ∀ {vs : List V} {ds : List D}, ds.all unslot1 = true → p ∈ zipT vs ds → unslot1 p.2 = true
  | [], _, _, h => by cases h
  | _ :: _, [], _, h => by cases h
  | v :: vs, d :: ds, n, h => by
    rw [List.all_cons, Bool.and_eq_true] at n
    rcases List.mem_cons.mp h with e | h
    · rw [e]; exact n.1
    · exact zip_uns n.2 h
theorem kX0 {σ : L2.St} {τ : List (V × D)} {c : Ctx} {α : Type} {m : Er α} {k : α → Dl → Prop} {W : WX} (h : m.post k (fun _ _ => False)) : m.post k (kX K mg c W σ τ) := Er.post_mono h (fun _ _ q => q) fun _ _ q => q.elim
theorem no_wiped {δ : Dl} {v : Nat} {vs : List Nat} (hv : v ∈ vs) (h : v < δ.length) : (wipeD δ vs)[v]? = some Slot.no := by
  rw [wipeD_get, if_pos hv, List.getElem?_eq_getElem h]; rfl
theorem lc_imp {c : Ctx} {W : WX} {vs is : List Nat} {src : ML} {g : MG} {tt : MT} {el : ME} (hi : ∀ i ∈ is, i ∈ vs) : ∀ σ H Q, tF K mg c W (mLc vs src g tt el) σ H Q → tLc (tDI K mg c W src) (tDG K g is) (tDTx K mg tt) (tDx K mg el) vs σ H Q := fun σ H Q ⟨F, δ, τ, S, h⟩ => by
  unfold mLc at h
  rw [Er.post_bind] at h
  refine ⟨F, δ, τ, S, Er.post_mono (k' := fun ds δ' => ∀ J t H' F', SRF K c F' σ δ' (t ++ τ) H' → WalkOf K J t ds → _) h (fun ds δ1 h J t H1 F1 S1 hJ D hD => ?_) fun _ _ q => q⟩
  split at h
  · rename_i hfree
    generalize hk : (fun (r : R) (δ' : Dl) => ∀ (a : Addr) (H' : Hp) (F' : Nat → Addr → Prop), δ'.length = δ.length → SRF K c F' (σ ++ [some (.ref a)]) (δ' ++ [.own r]) τ H' → Q (.ref a) H') = kk at h
    generalize hkx : kX K mg c W σ τ = kkx at h
    have hfree : ∀ v ∈ vs, freeS δ1 v = true := List.all_eq_true.mp hfree
    rw [Er.post_bindN] at h
    obtain ⟨F2, S2⟩ := S1.wipes hfree
    have S3 := S2.pushOwn (r := .lst []) (o := .lst []) hD fun M m => ⟨[], upd_same, .nil, fun _ => Iff.rfl⟩
    have hlen1 : (wipeD δ1 vs).length = δ1.length := wipeD_length _ _
    refine ⟨fun i m H' => ∃ F' δ' acc, m = ds.length - i ∧ i ≤ ds.length ∧ δ'.length = δ1.length ∧ (∀ v ∈ vs, δ'[v]? = some Slot.no) ∧ SRF K c F' (wipe σ vs ++ [some (.ref D)]) (δ' ++ [.own (.lst acc)]) (t ++ τ) H' ∧
      (lcGo vs g tt el (ds.drop i) acc δ').post (fun acc δ2 => (if δ2.length = δ1.length then Er.ok (R.lst acc) δ2 else .stuck).post kk kkx) (fun _ _ => False), ⟨ds.length, _, _, [], by simp, Nat.zero_le _, hlen1, fun v hv => no_wiped hv (freeS_lt (hfree v hv)), S3, h⟩, ?_⟩
    rintro i m H' ⟨F', δ', acc, rfl, hile, hlen, hno, S', h'⟩
    have hd0 : ∀ p ∈ t ++ τ, p.2 ≠ .slot δ'.length := fun p hp e => by
      rcases List.mem_append.mp hp with hp' | hp'
      · have := hJ.uns p hp'
        rw [e] at this
        cases this
      · rcases S1.tmp p (List.mem_append_right _ hp') with ⟨j, r, e2, _, q⟩ | q
        · rw [e] at e2
          cases e2
          have := q.lt
          omega
        · rw [e] at q
          exact rep_ns q
    by_cases hlt : i < ds.length
    · right
      refine ⟨hJ.go _ _ _ _ _ _ _ S' hlt, fun H' => ∃ F' δ' acc, i + 1 ≤ ds.length ∧ δ'.length = δ1.length ∧ (∀ v ∈ vs, δ'[v]? = some Slot.no) ∧ SRF K c F' (wipe σ vs ++ [some (.ref D)]) (δ' ++ [.own (.lst acc)]) (t ++ τ) H' ∧
        (lcGo vs g tt el (ds.drop (i + 1)) acc δ').post (fun acc δ2 => (if δ2.length = δ1.length then Er.ok (R.lst acc) δ2 else .stuck).post kk kkx) (fun _ _ => False), ?_, ?_⟩
      · rintro H2 ⟨F', δ', acc, h1, h2, h25, h3, h4⟩
        exact ⟨_, by omega, F', δ', acc, rfl, h1, h2, h25, h3, h4⟩
      · intro x H2 hy
        have hdi : ds[i]? = some ds[i] := List.getElem?_eq_getElem hlt
        obtain ⟨S4, rx⟩ := hJ.yld _ _ _ _ _ _ _ _ _ _ S' hdi hy
        obtain ⟨ws, hDw, hwl, S5⟩ := S4.lend hd0
        rw [List.drop_eq_getElem_cons hlt] at h'
        unfold lcGo at h'
        cases eg : g ds[i] δ' with
        | none => rw [eg] at h'; exact h'.elim
        | some δg =>
          rw [eg] at h'
          have h' := Er.post_bindN.mp h'
          have rx' : Rep K ((lendC c (fdel F' δ'.length) H2 D).M (fdel F' δ'.length)) H2 x ds[i] := rx.mv fun b o e n => ⟨e, fun q => by
            rcases q with (q | q) | ⟨j, q⟩
            · exact n (.inl q)
            · obtain ⟨a', h1, _, _, _, h4⟩ := S4.res δ'.length (.lst acc) (isRes_app.mpr (.inr ⟨rfl, .inl rfl⟩))
              have l0 : (wipe σ vs).length = δ'.length := by have := S4.len; simpa using this
              rw [List.getElem?_append_right (by rw [l0]; exact Nat.le_refl _), l0] at h1
              simp at h1
              exact n (.inr ⟨_, by rw [q]; exact (h4 D).mpr h1⟩)
            · exact n (.inr ⟨j, q.2⟩)⟩
          have nslot : ∀ p ∈ zipT ws acc ++ (t ++ τ), ∀ i ∈ is, p.2 ≠ .slot i := fun p hp i hi' e => by
            rcases List.mem_append.mp hp with hp' | hp'
            · have q := S5.tmp p (List.mem_append_left _ hp')
              obtain ⟨_, _, vs0, _, h3, _⟩ := S4.res δ'.length (.lst acc) (isRes_app.mpr (.inr ⟨rfl, .inl rfl⟩))
              have := zip_uns (repL_uns h3) hp'
              rw [e] at this
              cases this
            · rcases List.mem_append.mp hp' with hp' | hp'
              · have := hJ.uns p hp'
                rw [e] at this
                cases this
              · exact S1.notSlot (hfree i (hi i hi')) p (List.mem_append_right _ hp') e
          refine ⟨_, _, δ', _, ds[i], δg, S5, rx', nslot, eg, fun σ2 Fg S6 hw => ⟨?_, ?_⟩⟩
          · rw [hw vs hi, wipe_wipe]
          · have hww : wipe σ2 vs = wipe σ vs := by rw [hw vs hi, wipe_wipe]
            refine ⟨_, Fg, δg, _, S6, kX0 (Er.post_mono h' (fun k δ2 h2 H3 F3 S7 => ?_) fun _ _ q => q)⟩
            cases k with
            | true =>
              rw [if_pos rfl] at h2
              have h2 := Er.post_bindN.mp h2
              refine iteT ⟨_, F3, δ2, _, S7, kX0 (Er.post_mono h2 (fun y δ3 h3 v H4 F4 S8 => ?_) fun _ _ q => q)⟩
              have h3 : (if unslot1 y = true ∧ acc.length < sizeLine ∧ vs.all (freeS δ3) = true ∧ δ3.length = δ'.length then lcGo vs g tt el (ds.drop (i + 1)) (acc ++ [y]) (wipeD δ3 vs) else .stuck).post _ _ := h3
              split at h3
              · rename_i hc
                obtain ⟨h31, h32, h33, h34⟩ := hc
                have hD4 := S4.lent_at hDw S8
                refine ⟨ws, hD4, by rw [hwl]; exact h32, ?_⟩
                obtain ⟨F5, S9⟩ := S8.wipes (List.all_eq_true.mp h33)
                rw [hww] at S9
                have ry : Rep K ((lendC c (fdel F' δ'.length) H2 D).M F5) H4 v y := S9.top.rep h31
                have rs : RepL K ((lendC c (fdel F' δ'.length) H2 D).M F5) H4 ws acc := by
                  obtain ⟨_, _, vs0, _, h3, _⟩ := S4.res δ'.length (.lst acc) (isRes_app.mpr (.inr ⟨rfl, .inl rfl⟩))
                  exact repL_tmp hwl (fun p hp => List.mem_cons_of_mem _ (List.mem_append_left _ hp)) S9 (repL_uns h3)
                have S10 := S4.unlend S9 (by rw [wipeD_length, h34]) (rs.append (.cons ry .nil))
                exact ⟨_, _, _, hlt, by rw [wipeD_length, h34, hlen], fun v hv => no_wiped hv (freeS_lt (List.all_eq_true.mp h33 v hv)), S10.sub fun p hp => List.mem_cons_of_mem _ (List.mem_append_right _ hp), h3⟩
              · exact h3.elim
            | false =>
              refine iteF ?_
              rw [if_neg Bool.false_ne_true] at h2
              split at h2
              · rename_i hc
                obtain ⟨h33, h34⟩ := hc
                obtain ⟨F5, S9⟩ := S7.wipes (List.all_eq_true.mp h33)
                rw [hww] at S9
                have rs : RepL K ((lendC c (fdel F' δ'.length) H2 D).M F5) H3 ws acc := by
                  obtain ⟨_, _, vs0, _, h3, _⟩ := S4.res δ'.length (.lst acc) (isRes_app.mpr (.inr ⟨rfl, .inl rfl⟩))
                  exact repL_tmp hwl (fun p hp => List.mem_append_left _ hp) S9 (repL_uns h3)
                have S10 := S4.unlend S9 (by rw [wipeD_length, h34]) rs
                have hD4 := S4.lent_at hDw S9
                have eD : upd H3 D (.lst ws) = H3 := by
                  funext b
                  by_cases hb : b = D
                  · rw [hb, upd_same, hD4]
                  · rw [upd_ne hb]
                rw [eD] at S10
                exact ⟨_, _, _, hlt, by rw [wipeD_length, h34, hlen], fun v hv => no_wiped hv (freeS_lt (List.all_eq_true.mp h33 v hv)), S10.sub fun p hp => List.mem_append_right _ hp, h2⟩
              · exact h2.elim
    · left
      have e : i = ds.length := by omega
      subst e
      refine ⟨hJ.stop _ _ _ _ _ _ S', ?_⟩
      rw [List.drop_length] at h'
      have h' : (if δ'.length = δ1.length then Er.ok (R.lst acc) δ' else .stuck).post kk kkx := h'
      rw [if_pos hlen, ← hk] at h'
      have l1 : δ1.length = δ.length := by
        have q1 := S1.len
        have q2 := S.len
        omega
      have q1 := S'.len
      rw [List.length_append, List.length_append, wipe_length] at q1
      refine h' D _ _ (by rw [hlen, l1]) ((S'.sub fun p hp => List.mem_append_right _ hp).restate (by simp [wipe_length]) fun i hi => ?_)
      by_cases hl : i < σ.length
      · rw [List.getElem?_append_left hl, List.getElem?_append_left (by rw [wipe_length]; exact hl), wipe_get]
        have nv : i ∉ vs := fun hv => hi (by rw [List.getElem?_append_left (by simp at q1; omega)]; exact hno i hv)
        rw [if_neg nv]
      · rw [List.getElem?_append_right (by omega), List.getElem?_append_right (by rw [wipe_length]; omega), wipe_length]
  · exact h.elim
end
end DL
set_option Elab.async false
set_option linter.all false
set_option maxRecDepth 100000
set_option autoImplicit false
/-! DL5: new values, statements, loops. -/
namespace DL
open PySem PySem.Spec PyProof.Rows L2

section
variable {K : PySem.W.Frag} {c : Ctx} {F : Nat → Addr → Prop} {σ : L2.St} {δ : Dl} {τ : List (V × D)} {H : Hp}
theorem SRF.nslot {n : Nat} (S : SRF K c F σ δ τ H) (h : δ.length ≤ n) : ∀ p ∈ τ, p.2 ≠ .slot n := fun p hp e => by
  rcases S.tmp p hp with ⟨j, r, e2, _, q⟩ | q
  · rw [e] at e2
    cases e2
    exact absurd q.lt (by omega)
  · rw [e] at q
    exact rep_ns q
theorem uns_nslot {n : Nat} (h : ∀ p ∈ τ, unslot1 p.2 = true) : ∀ p ∈ τ, p.2 ≠ .slot n := fun p hp e => by
  have := h p hp
  rw [e] at this
  cases this
theorem lastA {a : Addr} {r : R} (S : SRF K c F (σ ++ [some (.ref a)]) (δ ++ [.own r]) τ H) : RAt K (c.M F) H a r (F δ.length) := by
  have l0 : σ.length = δ.length := by have := S.len; simpa using this
  obtain ⟨a', h1, h2⟩ := S.res δ.length r (isRes_app.mpr (.inr ⟨rfl, .inl rfl⟩))
  rw [List.getElem?_append_right (by rw [l0]; exact Nat.le_refl _), l0] at h1
  simp at h1
  subst h1
  exact h2
/-- a new list or dict, frozen -/
theorem SRF.freezeL {a : Addr} {ds : List D} (S : SRF K c F (σ ++ [some (.ref a)]) (δ ++ [.own (.lst ds)]) τ H) (hτ : ∀ p ∈ τ, p.2 ≠ .slot δ.length) : SRF K c (fdel F δ.length) σ δ ((.ref a, .lst ds) :: τ) H := by
  have P := S.pop (fun r h => by cases h) hτ
  obtain ⟨vs, h1, h2, h3⟩ := lastA S
  refine P.push (.inr (.lst ⟨h1, fun q => ?_⟩ (h2.mv (mv_le fun b h => ?_))))
  · rcases q with q | ⟨j, q⟩
    · exact S.out _ _ ((h3 a).mpr rfl) q
    · exact q.1 (S.dis _ _ a q.2 ((h3 a).mpr rfl))
  · rcases h with h | ⟨j, h⟩
    · exact .inl h
    · exact .inr ⟨j, h.2⟩
theorem SRF.freezeK {a : Addr} {ds : List (Key × D)} (S : SRF K c F (σ ++ [some (.ref a)]) (δ ++ [.own (.dic ds)]) τ H) (hτ : ∀ p ∈ τ, p.2 ≠ .slot δ.length) : SRF K c (fdel F δ.length) σ δ ((.ref a, .dic ds) :: τ) H := by
  have P := S.pop (fun r h => by cases h) hτ
  obtain ⟨vs, h1, h2, h3⟩ := lastA S
  refine P.push (.inr (.dic h1 (fun q => ?_) (h2.mv (mv_le fun b h => ?_))))
  · rcases q with q | ⟨j, q⟩
    · exact S.out _ _ ((h3 a).mpr rfl) q
    · exact q.1 (S.dis _ _ a q.2 ((h3 a).mpr rfl))
  · rcases h with h | ⟨j, h⟩
    · exact .inl h
    · exact .inr ⟨j, h.2⟩
end
def frz : R → Option D
  | .lst ds => some (.lst ds)
  | .dic ds => some (.dic ds)
  | .abs _ => none
def mFz (m : Dl → Er R) : ME := fun δ => (m δ).bind fun r δ1 => optE (frz r) δ1
section
variable {X : Cx} {c : Ctx} {W : WX} {e : Expr} {pos : Pos}
theorem de_fz {m : Dl → Er R} (h : DF X c W e m) : DE X c W e (mFz m) := pe_imp h fun σ H Q ⟨F, δ, τ, S, h⟩ => by
  unfold mFz at h
  rw [Er.post_bind] at h
  refine ⟨F, δ, τ, S, Er.post_mono h (fun r δ1 h a H1 F1 hl S1 => ?_) fun _ _ q => q⟩
  have hτ := S.nslot (n := δ1.length) (by omega)
  cases r with
  | lst ds => exact h _ _ _ (S1.freezeL hτ)
  | dic ds => exact h _ _ _ (S1.freezeK hτ)
  | abs A => exact h.elim
theorem dx_of {el : ME} (h : ∀ c, DE X c W0 e el) : PE X e (tDx X.K X.mg el) := ⟨fun pins s σ H Q I ⟨c, q⟩ => (h c).run pins s σ H Q I q⟩
theorem dtx_of {el : MT} (h : ∀ c, DT X c W0 e el) : PT X e (tDTx X.K X.mg el) := ⟨fun pins s σ H Q I ⟨c, q⟩ => (h c).run pins s σ H Q I q⟩
theorem ts_nil : PTs X [] (tDTx X.K X.mg mYes) := ⟨fun pins s σ H Q I ⟨c, F, δ, τ, S, h⟩ => pts_nil.run pins s σ H Q I (h H F S)⟩
theorem ts_one {t : Expr} {tt : MT} (h : ∀ c, DT X c W0 t tt) : PTs X [t] (tDTx X.K X.mg tt) := pts_one (dtx_of h)
theorem df_lc {elt tg iter : Expr} {ifs : List Expr} {scope : Scope} {own : List (Str × Nat)} {src : ML} {g : MG} {is : List Nat} {tt : MT} {el : ME} (hc : X.calm = true) (hN : X.N.Nodup) (hi : DI X c W tg iter src) (ok : BlkOk X.N X.env.scope scope own)
    (hg : ∀ (s : Shared) (H : Hp) (C : Addr) (cl : List (Str × Addr)) (fp : List Addr), DG (X.blk s H scope (compEnvC scope cl C X.env) fp) tg g is) (ht : ∀ (s : Shared) (H : Hp) (C : Addr) (cl : List (Str × Addr)) (fp : List Addr), PTs (X.blk s H scope (compEnvC scope cl C X.env) fp) ifs (tDTx X.K X.mg tt))
    (he : ∀ (s : Shared) (H : Hp) (C : Addr) (cl : List (Str × Addr)) (fp : List Addr), PE (X.blk s H scope (compEnvC scope cl C X.env) fp) elt (tDx X.K X.mg el)) (his : ∀ i ∈ is, i ∈ own.map (·.2) := by decide) (hs : ∀ x, foldedSetIterable iter X.env x = pure x := by intro _; rfl) :
    DF X c W (.ListComp elt [⟨tg, iter, ifs, 0⟩] scope pos) (mLc (own.map (·.2)) src g tt el) :=
  pe_imp (pe_lc hc hN hi ok hg ht he hs) (lc_imp his)
theorem df_lst {es : List Expr} {ms : ML} (h : DA X c W es ms) : DF X c W (.List es pos) (fun δ => (ms δ).bind fun ds δ1 => if ds.all unslot1 = true ∧ ds.length ≤ sizeLine ∧ δ1.length = δ.length then .ok (.lst ds) δ1 else .stuck) :=
  pe_imp (pe_lst h) fun σ H Q ⟨F, δ, τ, S, h⟩ => by
    rw [Er.post_bind] at h
    refine ⟨F, δ, τ, S, Er.post_mono h (fun ds δ1 h vs H1 F1 hl S1 => ?_) fun x δ' q => q⟩
    split at h
    · rename_i hz
      refine ⟨by rw [hl]; exact hz.2.1, fun p hp => h p _ _ hz.2.2 (S1.pops.pushOwn hp fun M m => ⟨vs, upd_same, (repL_of hl S1 hz.1).mv m, fun _ => Iff.rfl⟩)⟩
    · exact h.elim
end

/-! ### statements -/
inductive Ret where
  | val (d : D) | own (r : R)
inductive Out where
  | nx (δ : Dl) | ret (r : Ret) (δ : Dl) | brk (δ : Dl) | ct (δ : Dl) | exc (x : Ex) (δ : Dl) | stuck
abbrev MS := Dl → Out
def Out.post (o : Out) (kn : Dl → Prop) (kr : Ret → Dl → Prop) (kb kc : Dl → Prop) (kx : Ex → Dl → Prop) : Prop :=
  match o with
  | .nx δ => kn δ
  | .ret r δ => kr r δ
  | .brk δ => kb δ
  | .ct δ => kc δ
  | .exc x δ => kx x δ
  | .stuck => False
def Er.out {α : Type} (m : Er α) (f : α → Dl → Out) : Out :=
  match m with
  | .ok a δ => f a δ
  | .exc x δ => .exc x δ
  | .stuck => .stuck
theorem Er.post_out {α : Type} {m : Er α} {f : α → Dl → Out} {kn : Dl → Prop} {kr : Ret → Dl → Prop} {kb kc : Dl → Prop} {kx : Ex → Dl → Prop} : (m.out f).post kn kr kb kc kx = m.post (fun a δ => (f a δ).post kn kr kb kc kx) kx := by
  cases m <;> rfl
theorem Out.post_mono {o : Out} {kn kn' : Dl → Prop} {kr kr' : Ret → Dl → Prop} {kb kb' kc kc' : Dl → Prop} {kx kx' : Ex → Dl → Prop} (h : o.post kn kr kb kc kx) (h1 : ∀ δ, kn δ → kn' δ) (h2 : ∀ r δ, kr r δ → kr' r δ) (h3 : ∀ δ, kb δ → kb' δ) (h4 : ∀ δ, kc δ → kc' δ) (h5 : ∀ x δ, kx x δ → kx' x δ) :
    o.post kn' kr' kb' kc' kx' := by
  cases o with
  | nx δ => exact h1 _ h
  | ret r δ => exact h2 _ _ h
  | brk δ => exact h3 _ h
  | ct δ => exact h4 _ h
  | exc x δ => exact h5 _ _ h
  | stuck => exact h
def retP (K : PySem.W.Frag) (c : Ctx) (τ : List (V × D)) (Q : VK) : Ret → Dl → Prop
  | .val d, δ' => ∀ v σ' H' F', SRF K c F' σ' δ' ((v, d) :: τ) H' → Q v H'
  | .own r, δ' => ∀ a σ' H' F', SRF K c F' (σ' ++ [some (.ref a)]) (δ' ++ [.own r]) τ H' → Q (.ref a) H'
def nxP (K : PySem.W.Frag) (c : Ctx) (τ : List (V × D)) (Q : L2.St → Hp → Prop) : Dl → Prop := fun δ' => ∀ σ' H' F', SRF K c F' σ' δ' τ H' → Q σ' H'
def exP (K : PySem.W.Frag) (mg : Str → Option Value) (c : Ctx) (W : WX) (τ : List (V × D)) : Ex → Dl → Prop := fun x δ' => ∀ cls dx σ' H' F', SRF K c F' σ' δ' τ H' → IsExc K mg (c.M F') H' x cls dx → W cls dx σ' H'
def tDS (K : PySem.W.Frag) (mg : Str → Option Value) (c : Ctx) (W : WX) (s : MS) : TS := fun D σ H => ∃ F δ τ, SRF K c F σ δ τ H ∧ (∀ p ∈ τ, unslot1 p.2 = true) ∧
  (s δ).post (nxP K c τ D.nx) (retP K c τ D.rt) (nxP K c τ D.bk) (nxP K c τ D.ct) (exP K mg c W τ)
abbrev DS (X : Cx) (c : Ctx) (W : WX) (st : Stmt) (s : MS) : Prop := PS X st (tDS X.K X.mg c W s)
abbrev DSs (X : Cx) (c : Ctx) (W : WX) (st : List Stmt) (s : MS) : Prop := PSs X st (tDS X.K X.mg c W s)
theorem ps_imp {X : Cx} {e : Stmt} {t t' : TS} (h : PS X e t) (k : ∀ D σ H, t' D σ H → t D σ H) : PS X e t' := ⟨fun pins s σ H D I q => h.run pins s σ H D I (k D σ H q)⟩
theorem pss_imp {X : Cx} {e : List Stmt} {t t' : TS} (h : PSs X e t) (k : ∀ D σ H, t' D σ H → t D σ H) : PSs X e t' := ⟨fun pins s σ H D I q => h.run pins s σ H D I (k D σ H q)⟩
theorem exP.kX {K : PySem.W.Frag} {mg : Str → Option Value} {c : Ctx} {W : WX} {τ : List (V × D)} {σ : L2.St} {x : Ex} {δ : Dl} (h : exP K mg c W τ x δ) : kX K mg c W σ τ x δ := fun cls dx H' F' S i => h cls dx σ H' F' S i

def mSkip : MS := fun δ => .nx δ
def mSeq (a b : MS) : MS := fun δ => match a δ with
  | .nx δ1 => b δ1
  | o => o
def mIfS (t : MT) (a b : MS) : MS := fun δ => (t δ).out fun k δ1 => if k = true then a δ1 else b δ1
def mAsg (m : ME) (g : MG) : MS := fun δ => (m δ).out fun d δ1 => match g d δ1 with
  | some δ2 => .nx δ2
  | none => .stuck
def mOwn (m : Dl → Er R) (i : Nat) : MS := fun δ => (m δ).out fun r δ1 => if nobor δ1 i = true then .nx (δ1.set i (.own r)) else .stuck
def mExpr (m : ME) : MS := fun δ => (m δ).out fun _ δ1 => .nx δ1
def mRet (m : ME) : MS := fun δ => (m δ).out fun d δ1 => if unslot1 d = true then .ret (.val d) δ1 else .stuck
def mRetF (m : Dl → Er R) : MS := fun δ => (m δ).out fun r δ1 => .ret (.own r) δ1
def mRetO (i : Nat) : MS := fun δ => match δ[i]? with
  | some (.own r) => .ret (.own r) (δ.set i .no)
  | _ => .stuck
def mRetN : MS := fun δ => .ret (.val .non) δ
def mFree (i : Nat) : MS := fun δ => match δ[i]? with
  | some (.own r) => (match frz r with | some d => .nx (δ.set i (.val d)) | none => .stuck)
  | _ => .stuck
def mBrk : MS := fun δ => .brk δ
def mCt : MS := fun δ => .ct δ
def mRaise (x : Ex) : MS := fun δ => .exc x δ
def forGo (g : MG) (b : MS) : List D → Dl → Out
  | [], δ => .nx δ
  | x :: xs, δ => match g x δ with
    | none => .stuck
    | some δ1 => match b δ1 with
      | .nx δ2 => forGo g b xs δ2
      | .ct δ2 => forGo g b xs δ2
      | .brk δ2 => .nx δ2
      | o => o
def mFor (src : ML) (g : MG) (b : MS) : MS := fun δ => (src δ).out fun ds δ1 => forGo g b ds δ1
def whGo (t : MT) (b : MS) : Nat → Dl → Out
  | 0, _ => .stuck
  | n + 1, δ => (t δ).out fun k δ1 => if k = true then (match b δ1 with
      | .nx δ2 => whGo t b n δ2
      | .ct δ2 => whGo t b n δ2
      | .brk δ2 => .nx δ2
      | o => o) else .nx δ1
open Classical in
noncomputable def mWhile (t : MT) (b : MS) : MS := fun δ => if h : ∃ n, whGo t b n δ ≠ .stuck then whGo t b h.choose δ else .stuck
theorem whGo_mono {t : MT} {b : MS} : ∀ {n m : Nat} {δ : Dl}, n ≤ m → whGo t b n δ ≠ .stuck → whGo t b m δ = whGo t b n δ
  | 0, _, _, _, h => (h rfl).elim
  | n + 1, 0, _, hl, _ => by omega
  | n + 1, m + 1, δ, hl, h => by
    unfold whGo at h ⊢
    cases e : t δ with
    | stuck => rfl
    | exc x δ1 => rfl
    | ok k δ1 =>
      rw [e] at h
      show (if k = true then _ else _) = (if k = true then _ else _)
      have h : (if k = true then (match b δ1 with
        | .nx δ2 => whGo t b n δ2
        | .ct δ2 => whGo t b n δ2
        | .brk δ2 => .nx δ2
        | o => o) else Out.nx δ1) ≠ .stuck := h
      cases k with
      | false => rfl
      | true =>
        rw [if_pos rfl] at h ⊢
        rw [if_pos rfl]
        cases eb : b δ1 with
        | nx δ2 => rw [eb] at h; exact whGo_mono (by omega) h
        | ct δ2 => rw [eb] at h; exact whGo_mono (by omega) h
        | _ => rfl
theorem mWhile_eq {t : MT} {b : MS} {δ : Dl} {o : Out} (n : Nat) (h : whGo t b n δ = o) (ho : o ≠ .stuck) : mWhile t b δ = o := by
  have ex : ∃ n, whGo t b n δ ≠ .stuck := ⟨n, by rw [h]; exact ho⟩
  unfold mWhile
  rw [dif_pos ex]
  have h1 := ex.choose_spec
  rcases Nat.le_total n ex.choose with hl | hl
  · rw [whGo_mono hl (by rw [h]; exact ho), h]
  · rw [← whGo_mono hl h1, h]

section
variable {X : Cx} {c : Ctx} {W : WX} {e : Expr} {m : ME} {pos : Pos} {st : Stmt} {a b : MS} {body rest : List Stmt}
theorem ss_nil : DSs X c W [] mSkip := pss_imp pss_nil fun D σ H ⟨F, δ, τ, S, u, h⟩ => h σ H F S
theorem ss_cons (h1 : DS X c W st a) (h2 : DSs X c W rest b) : DSs X c W (st :: rest) (mSeq a b) := pss_imp (pss_cons h1 h2) fun D σ H ⟨F, δ, τ, S, u, h⟩ => by
  unfold mSeq at h
  refine ⟨F, δ, τ, S, u, ?_⟩
  cases ea : a δ with
  | nx δ1 =>
    rw [ea] at h
    exact fun σ' H' F' S' => ⟨F', δ1, τ, S', u, h⟩
  | ret r δ1 => rw [ea] at h; exact h
  | brk δ1 => rw [ea] at h; exact h
  | ct δ1 => rw [ea] at h; exact h
  | exc x δ1 => rw [ea] at h; exact h
  | stuck => rw [ea] at h; exact h
theorem ss_one (h1 : DS X c W st a) : DSs X c W [st] a := pss_one h1
theorem ds_pass : DS X c W (.Pass pos) mSkip := ps_imp ps_pass fun D σ H ⟨F, δ, τ, S, u, h⟩ => h σ H F S
theorem ds_brk : DS X c W (.Break pos) mBrk := ps_imp ps_break fun D σ H ⟨F, δ, τ, S, u, h⟩ => h σ H F S
theorem ds_ct : DS X c W (.Continue pos) mCt := ps_imp ps_continue fun D σ H ⟨F, δ, τ, S, u, h⟩ => h σ H F S
theorem ds_if {t : Expr} {tt : MT} {p q : List Stmt} (ht : DT X c W t tt) (hp : DSs X c W p a) (hq : DSs X c W q b) : DS X c W (.If t p q pos) (mIfS tt a b) := ps_imp (ps_if ht hp hq) fun D σ H ⟨F, δ, τ, S, u, h⟩ => by
  unfold mIfS at h
  rw [Er.post_out] at h
  refine ⟨F, δ, τ, S, Er.post_mono h (fun k δ1 h H1 F1 S1 => ?_) fun _ _ q => q.kX⟩
  cases k with
  | true => exact iteT ⟨F1, δ1, τ, S1, u, h⟩
  | false => exact iteF ⟨F1, δ1, τ, S1, u, h⟩
theorem tDS_asg {g : MG} {is : List Nat} (hg : ∀ i δ, g (.slot i) δ = none) (D : Ends) (σ : L2.St) (H : Hp) (h : tDS X.K X.mg c W (mAsg m g) D σ H) : tAsg (tD X.K X.mg c W m) (tDG X.K g is) D σ H := by
  obtain ⟨F, δ, τ, S, u, h⟩ := h
  unfold mAsg at h
  rw [Er.post_out] at h
  refine ⟨F, δ, τ, S, Er.post_mono h (fun d δ1 h v H1 F1 S1 => ?_) fun _ _ q => q.kX⟩
  cases eg : g d δ1 with
  | none => rw [eg] at h; exact h.elim
  | some δ2 =>
    rw [eg] at h
    rcases S1.top with ⟨i, r, e1, _⟩ | r
    · rw [e1, hg] at eg
      cases eg
    · exact ⟨c, F1, δ1, τ, d, δ2, S1.drop, r, fun p hp i _ => uns_nslot u p hp, eg, fun σ' F' S' _ => h σ' H1 F' S'⟩
theorem gN_ns {i : Nat} : ∀ j δ, gN i (.slot j) δ = none := fun j δ => by
  unfold gN
  rw [if_neg (fun h => by cases h.2)]
theorem gT_ns {is : List Nat} : ∀ j δ, gT is (.slot j) δ = none := fun _ _ => rfl
/-- target = value -/
theorem ds_asg {tg : Expr} {g : MG} {is : List Nat} (he : DE X c W e m) (hg : DG X tg g is) (hns : ∀ i δ, g (.slot i) δ = none) (hs : swapsWithSole [tg] e pos.line X.env = pure false := by rfl) (hw : swappedStores [tg] e X.env = pure none := by rfl)
    (h1 : (assignEach [tg] X.env).map (·.2) = [assign tg X.env] := by rfl) : DS X c W (.Assign [tg] e pos) (mAsg m g) := ps_imp (ps_asg he hg hs hw h1) (tDS_asg hns)
theorem ds_set {i : Nat} {x : Str} {pos' : Pos} (hN : X.N.Nodup) (hi : X.N[i]? = some x) (hx : Loc X.env.scope x) (he : DE X c W e m) (hs : swapsWith e (some (.Name x pos')) pos.line X.env = pure false := by rfl) (hf : X.fn x = true ∨ X.env.scope.names.lookup x = some .local := by first | exact .inl rfl | exact .inr rfl | assumption) :
    DS X c W (.Assign [.Name x pos'] e pos) (mAsg m (gN i)) := ps_imp (ps_set hN hi hx he hs hf) fun D σ H h => by
  have h := tDS_asg (is := [i]) gN_ns D σ H h
  obtain ⟨F, δ, τ, S, h⟩ := h
  refine ⟨F, δ, τ, S, Er.post_mono h (fun d δ1 h v H1 F1 S1 => ?_) fun _ _ q => q⟩
  obtain ⟨c, F, δ, τ, d, δ', S, r, hτ, e, k⟩ := h v H1 F1 S1
  exact k _ _ (gN_step S r (fun p hp => hτ p hp i List.mem_cons_self) e) fun vs h => wipe_set (h i List.mem_cons_self)

theorem SRF.setOwn {K : PySem.W.Frag} {F : Nat → Addr → Prop} {σ : L2.St} {δ : Dl} {τ : List (V × D)} {H : Hp} {i : Nat} {a : Addr} {r : R} (S : SRF K c F (σ ++ [some (.ref a)]) (δ ++ [.own r]) τ H) (u : ∀ p ∈ τ, unslot1 p.2 = true) (nb : nobor δ i = true) :
    ∃ F', SRF K c F' (σ.set i (some (.ref a))) (δ.set i (.own r)) τ H := by
  have l0 : σ.length = δ.length := by have := S.len; simpa using this
  have hi := nobor_lt nb
  have hσ : i < σ.length := by rw [l0]; exact hi
  have L := lastA S
  have rs : ∀ {j : Nat} {r' : R}, IsRes (δ.set i (.own r)) j r' → (j = i ∧ r' = r) ∨ (j ≠ i ∧ IsRes δ j r') := fun {j r'} q => by
    by_cases e : i = j
    · subst e
      left
      unfold IsRes at q
      rw [List.getElem?_set_self hi] at q
      rcases q with q | q <;> cases q
      exact ⟨rfl, rfl⟩
    · right
      unfold IsRes at q
      rw [List.getElem?_set_ne e] at q
      exact ⟨fun z => e z.symm, q⟩
  have le : ∀ b, c.M (fun j b => (j = i ∧ F δ.length b) ∨ (j ≠ i ∧ j < δ.length ∧ F j b)) b → c.M F b := fun b h => by
    rcases h with h | ⟨j, ⟨_, h⟩ | ⟨_, _, h⟩⟩
    · exact .inl h
    · exact .inr ⟨_, h⟩
    · exact .inr ⟨_, h⟩
  have km := mv_le (H := H) le
  refine ⟨fun j b => (j = i ∧ F δ.length b) ∨ (j ≠ i ∧ j < δ.length ∧ F j b), by simp [l0], fun j d e => ?_, fun j r' e => ?_, fun j b h => ?_, fun j k b h h' => ?_, fun j b h => ?_, fun j b h => ?_, S.gdom, S.keep, fun p hp => ?_, fun p hp => ?_⟩
  · by_cases ij : i = j
    · subst ij
      rw [List.getElem?_set_self hi] at e
      cases e
    · rw [List.getElem?_set_ne ij] at e
      have hj : j < δ.length := (List.getElem?_eq_some_iff.mp e).1
      obtain ⟨v, h1, h2⟩ := S.val j d (by rw [List.getElem?_append_left hj]; exact e)
      rw [List.getElem?_append_left (by rw [l0]; exact hj)] at h1
      exact ⟨v, by rw [List.getElem?_set_ne ij]; exact h1, h2.mv km⟩
  · rcases rs e with ⟨rfl, rfl⟩ | ⟨ne, q⟩
    · refine ⟨a, List.getElem?_set_self hσ, ?_⟩
      have q : (fun b => (j = j ∧ F δ.length b) ∨ (j ≠ j ∧ j < δ.length ∧ F j b)) = F δ.length := by
        funext b
        refine propext ⟨fun h => ?_, fun h => .inl ⟨rfl, h⟩⟩
        rcases h with ⟨_, h⟩ | ⟨h, _⟩
        · exact h
        · exact (h rfl).elim
      show RAt K _ H a r' (fun b => (j = j ∧ F δ.length b) ∨ (j ≠ j ∧ j < δ.length ∧ F j b))
      rw [q]
      exact L.mv km fun _ _ => rfl
    · obtain ⟨b, h1, h2⟩ := S.res j r' (isRes_app.mpr (.inl q))
      rw [List.getElem?_append_left (by rw [l0]; exact q.lt)] at h1
      refine ⟨b, by rw [List.getElem?_set_ne (Ne.symm ne)]; exact h1, ?_⟩
      have z : (fun b => (j = i ∧ F δ.length b) ∨ (j ≠ i ∧ j < δ.length ∧ F j b)) = F j := by
        funext b
        refine propext ⟨fun h => ?_, fun h => .inr ⟨ne, q.lt, h⟩⟩
        rcases h with ⟨h, _⟩ | ⟨_, _, h⟩
        · exact (ne h).elim
        · exact h
      show RAt K _ H b r' (fun b => (j = i ∧ F δ.length b) ∨ (j ≠ i ∧ j < δ.length ∧ F j b))
      rw [z]
      exact h2.mv km fun _ _ => rfl
  · rcases h with ⟨rfl, h⟩ | ⟨ne, hl, h⟩
    · exact ⟨r, .inl (List.getElem?_set_self hi)⟩
    · obtain ⟨r', q⟩ := S.off j b h
      rcases isRes_app.mp q with q | ⟨q, _⟩
      · refine ⟨r', ?_⟩
        unfold IsRes
        rw [List.getElem?_set_ne (Ne.symm ne)]
        exact q
      · omega
  · rcases h with ⟨h, h1⟩ | ⟨n1, l1, h1⟩
    · rcases h' with ⟨h', h2⟩ | ⟨n2, l2, h2⟩
      · rw [h, h']
      · have := S.dis _ _ b h1 h2
        omega
    · rcases h' with ⟨h', h2⟩ | ⟨n2, l2, h2⟩
      · have := S.dis _ _ b h1 h2
        omega
      · exact S.dis _ _ b h1 h2
  · rcases h with ⟨h, h1⟩ | ⟨n1, l1, h1⟩ <;> exact S.out _ b h1
  · rcases h with ⟨h, h1⟩ | ⟨n1, l1, h1⟩ <;> exact S.new _ b h1
  · obtain ⟨h1, r', h2⟩ := S.bor p hp
    have l : p.1 < δ.length := by
      by_cases l : p.1 < δ.length
      · exact l
      · have l2 := (List.getElem?_eq_some_iff.mp h2).1
        rw [List.length_append, List.length_singleton] at l2
        have e : p.1 = δ.length := by omega
        rw [e, List.getElem?_append_right (Nat.le_refl _)] at h2
        simp at h2
    rw [List.getElem?_append_left l] at h2
    rw [List.getElem?_append_left (by rw [l0]; exact l)] at h1
    have ne : i ≠ p.1 := fun q => nobor_ne nb r' (by rw [q]; exact h2)
    exact ⟨by rw [List.getElem?_set_ne ne]; exact h1, r', by rw [List.getElem?_set_ne ne]; exact h2⟩
  · refine ((S.tmp p hp).mv km).st fun j r' e q => ?_
    have := u p hp
    rw [e] at this
    cases this
theorem SRF.moveOut {K : PySem.W.Frag} {F : Nat → Addr → Prop} {σ : L2.St} {δ : Dl} {τ : List (V × D)} {H : Hp} {i : Nat} {r : R} (S : SRF K c F σ δ τ H) (u : ∀ p ∈ τ, unslot1 p.2 = true) (e : δ[i]? = some (Slot.own r)) :
    ∃ a F', σ[i]? = some (some (.ref a)) ∧ SRF K c F' (σ ++ [some (.ref a)]) (δ.set i .no ++ [.own r]) τ H := by
  obtain ⟨a, h1, h2⟩ := S.res i r (.inl e)
  have hi : i < δ.length := (List.getElem?_eq_some_iff.mp e).1
  have rs : ∀ {j : Nat} {r' : R}, IsRes (δ.set i .no) j r' ↔ j ≠ i ∧ IsRes δ j r' := isRes_set rfl
  have le : ∀ b, c.M (fun j b => (j = δ.length ∧ F i b) ∨ (j ≠ i ∧ j < δ.length ∧ F j b)) b → c.M F b := fun b h => by
    rcases h with h | ⟨j, ⟨_, h⟩ | ⟨_, _, h⟩⟩
    · exact .inl h
    · exact .inr ⟨_, h⟩
    · exact .inr ⟨_, h⟩
  have km := mv_le (H := H) le
  have lt_of : ∀ {j b}, F j b → j < δ.length := fun {j b} h => by obtain ⟨r, q⟩ := S.off j b h; exact q.lt
  refine ⟨a, fun j b => (j = δ.length ∧ F i b) ∨ (j ≠ i ∧ j < δ.length ∧ F j b), h1, by simp [S.len], fun j d e => ?_, fun j r' q => ?_, fun j b h => ?_, fun j k b h h' => ?_, fun j b h => ?_, fun j b h => ?_, S.gdom, S.keep, fun p hp => ?_, fun p hp => ?_⟩
  · by_cases hj : j < (δ.set i .no).length
    · rw [List.getElem?_append_left hj] at e
      rw [List.length_set] at hj
      by_cases ij : i = j
      · subst ij
        rw [List.getElem?_set_self hi] at e
        cases e
      · rw [List.getElem?_set_ne ij] at e
        obtain ⟨v, q1, q2⟩ := S.val j d e
        exact ⟨v, by rw [List.getElem?_append_left (by rw [S.len]; exact hj)]; exact q1, q2.mv km⟩
    · rw [List.getElem?_append_right (by omega)] at e
      cases h : j - (δ.set i .no).length with
      | zero => rw [h] at e; cases e
      | succ n => rw [h] at e; cases e
  · rcases isRes_app.mp q with q | ⟨q, q'⟩
    · obtain ⟨ne, q⟩ := rs.mp q
      obtain ⟨b, q1, q2⟩ := S.res j r' q
      refine ⟨b, by rw [List.getElem?_append_left (by rw [S.len]; exact q.lt)]; exact q1, ?_⟩
      have z : (fun b => (j = δ.length ∧ F i b) ∨ (j ≠ i ∧ j < δ.length ∧ F j b)) = F j := by
        funext b
        refine propext ⟨fun h => ?_, fun h => .inr ⟨ne, q.lt, h⟩⟩
        rcases h with ⟨h, _⟩ | ⟨_, _, h⟩
        · exact absurd h (Nat.ne_of_lt q.lt)
        · exact h
      show RAt K _ H b r' (fun b => (j = δ.length ∧ F i b) ∨ (j ≠ i ∧ j < δ.length ∧ F j b))
      rw [z]
      exact q2.mv km fun _ _ => rfl
    · rw [List.length_set] at q
      subst q
      rcases q' with q' | q' <;> cases q'
      refine ⟨a, by rw [List.getElem?_append_right (by rw [S.len]; exact Nat.le_refl _), S.len]; simp, ?_⟩
      have z : (fun b => (δ.length = δ.length ∧ F i b) ∨ (δ.length ≠ i ∧ δ.length < δ.length ∧ F δ.length b)) = F i := by
        funext b
        refine propext ⟨fun h => ?_, fun h => .inl ⟨rfl, h⟩⟩
        rcases h with ⟨_, h⟩ | ⟨_, h, _⟩
        · exact h
        · exact absurd h (Nat.lt_irrefl _)
      show RAt K _ H a r (fun b => (δ.length = δ.length ∧ F i b) ∨ (δ.length ≠ i ∧ δ.length < δ.length ∧ F δ.length b))
      rw [z]
      exact h2.mv km fun _ _ => rfl
  · rcases h with ⟨h, q⟩ | ⟨ne, hl, h⟩
    · exact ⟨r, isRes_app.mpr (.inr ⟨by rw [List.length_set]; exact h, .inl rfl⟩)⟩
    · obtain ⟨r', q⟩ := S.off j b h
      exact ⟨r', isRes_app.mpr (.inl (rs.mpr ⟨ne, q⟩))⟩
  · rcases h with ⟨h, q1⟩ | ⟨n1, l1, q1⟩
    · rcases h' with ⟨h', q2⟩ | ⟨n2, l2, q2⟩
      · rw [h, h']
      · exact (n2 (S.dis _ _ b q1 q2).symm).elim
    · rcases h' with ⟨h', q2⟩ | ⟨n2, l2, q2⟩
      · exact (n1 (S.dis _ _ b q1 q2)).elim
      · exact S.dis _ _ b q1 q2
  · rcases h with ⟨h, h1⟩ | ⟨n1, l1, h1⟩ <;> exact S.out _ b h1
  · rcases h with ⟨h, h1⟩ | ⟨n1, l1, h1⟩ <;> exact S.new _ b h1
  · obtain ⟨h1, r', h2⟩ := S.bor p hp
    have l : p.1 < δ.length := (List.getElem?_eq_some_iff.mp h2).1
    have ne : i ≠ p.1 := fun q => by rw [← q, e] at h2; cases h2
    exact ⟨by rw [List.getElem?_append_left (by rw [S.len]; exact l)]; exact h1, r', by rw [List.getElem?_append_left (by rw [List.length_set]; exact l), List.getElem?_set_ne ne]; exact h2⟩
  · refine ((S.tmp p hp).mv km).st fun j r' e q => ?_
    have := u p hp
    rw [e] at this
    cases this
/-- name = a new list, that the name owns -/
theorem tDS_own {i : Nat} {m : Dl → Er R} (D : Ends) (σ : L2.St) (H : Hp) (h : tDS X.K X.mg c W (mOwn m i) D σ H) : tAsg (tF X.K X.mg c W m) (gName i) D σ H := by
  obtain ⟨F, δ, τ, S, u, h⟩ := h
  unfold mOwn at h
  rw [Er.post_out] at h
  refine ⟨F, δ, τ, S, Er.post_mono h (fun r δ1 h a H1 F1 hl S1 => ?_) fun _ _ q => q.kX⟩
  split at h
  · rename_i nb
    obtain ⟨F2, S2⟩ := S1.setOwn u nb
    exact h _ _ F2 S2
  · exact h.elim
theorem ds_own {i : Nat} {x : Str} {pos' : Pos} {m : Dl → Er R} (hN : X.N.Nodup) (hi : X.N[i]? = some x) (hx : Loc X.env.scope x) (he : DF X c W e m) (hs : swapsWith e (some (.Name x pos')) pos.line X.env = pure false := by rfl) (hf : X.fn x = true ∨ X.env.scope.names.lookup x = some .local := by first | exact .inl rfl | exact .inr rfl | assumption) :
    DS X c W (.Assign [.Name x pos'] e pos) (mOwn m i) := ps_imp (ps_set hN hi hx he hs hf) tDS_own
theorem ds_expr (he : DE X c W e m) (hs : swapsWith e none pos.line X.env = pure false := by rfl) : DS X c W (.Expr e pos) (mExpr m) := ps_imp (ps_expr he hs) fun D σ H ⟨F, δ, τ, S, u, h⟩ => by
  unfold mExpr at h
  rw [Er.post_out] at h
  exact ⟨F, δ, τ, S, Er.post_mono h (fun d δ1 h v H1 F1 S1 => h _ _ F1 S1.drop) fun _ _ q => q.kX⟩
theorem ds_ret (he : DE X c W e m) : DS X c W (.Return (some e) pos) (mRet m) := ps_imp (ps_ret he) fun D σ H ⟨F, δ, τ, S, u, h⟩ => by
  unfold mRet at h
  rw [Er.post_out] at h
  refine ⟨F, δ, τ, S, Er.post_mono h (fun d δ1 h v H1 F1 S1 => ?_) fun _ _ q => q.kX⟩
  split at h
  · exact h v _ _ _ S1
  · exact h.elim
theorem ds_retF {m : Dl → Er R} (he : DF X c W e m) : DS X c W (.Return (some e) pos) (mRetF m) := ps_imp (ps_ret he) fun D σ H ⟨F, δ, τ, S, u, h⟩ => by
  unfold mRetF at h
  rw [Er.post_out] at h
  exact ⟨F, δ, τ, S, Er.post_mono h (fun r δ1 h a H1 F1 hl S1 => h a _ _ _ S1) fun _ _ q => q.kX⟩
theorem ds_retO {i : Nat} (he : PE X e (tVar i)) : DS X c W (.Return (some e) pos) (mRetO i) := ps_imp (ps_ret he) fun D σ H ⟨F, δ, τ, S, u, h⟩ => by
  unfold mRetO at h
  split at h
  · rename_i r q
    obtain ⟨a, F', h1, S'⟩ := S.moveOut u q
    exact ⟨_, h1, h a _ _ F' S'⟩
  · exact h.elim
theorem ds_retN : DS X c W (.Return none pos) mRetN := ps_imp ps_retN fun D σ H ⟨F, δ, τ, S, u, h⟩ => h _ _ _ _ (S.push (.inr .non))
/-- an owned list, dict is frozen ahead of a statement -/
theorem SRF.freeS1 {K : PySem.W.Frag} {F : Nat → Addr → Prop} {σ : L2.St} {δ : Dl} {τ : List (V × D)} {H : Hp} {i : Nat} {r : R} {d : D} (S : SRF K c F σ δ τ H) (u : ∀ p ∈ τ, unslot1 p.2 = true) (e : δ[i]? = some (Slot.own r)) (hf : frz r = some d) : ∃ F', SRF K c F' σ (δ.set i (.val d)) τ H := by
  obtain ⟨a, F', h1, S1⟩ := S.moveOut u e
  have hi : i < δ.length := (List.getElem?_eq_some_iff.mp e).1
  have n := uns_nslot (n := (δ.set i .no).length) u
  have go : ∀ {F2}, SRF K c F2 σ (δ.set i .no) ((.ref a, d) :: τ) H → unslot1 d = true → ∃ F', SRF K c F' σ (δ.set i (.val d)) τ H := fun {F2} S2 ud => by
    have f : freeS (δ.set i .no) i = true := by
      unfold freeS
      rw [List.getElem?_set_self hi]
    have S3 := S2.drop.set (i := i) (s := .val d) (o := some (.ref a)) (by rw [List.length_set]; exact hi) (fun r q => by rw [List.getElem?_set_self hi] at q; cases q) (uns_nslot u) (.inr ⟨_, d, rfl, rfl, S2.top.rep ud⟩)
    rw [List.set_set] at S3
    have es : σ.set i (some (.ref a)) = σ := by
      apply List.ext_getElem?
      intro j
      by_cases ij : i = j
      · subst ij
        rw [List.getElem?_set_self (by rw [S.len]; exact hi), h1]
      · rw [List.getElem?_set_ne ij]
    rw [es] at S3
    exact ⟨_, S3⟩
  cases r with
  | lst ds => cases hf; exact go (S1.freezeL n) rfl
  | dic ds => cases hf; exact go (S1.freezeK n) rfl
  | abs A => cases hf
theorem ss_free {i : Nat} (h : DSs X c W rest b) : DSs X c W rest (mSeq (mFree i) b) := pss_imp h fun D σ H ⟨F, δ, τ, S, u, h⟩ => by
  unfold mSeq mFree at h
  cases e : δ[i]? with
  | none => simp only [e] at h; exact h.elim
  | some s =>
    cases s with
    | own r =>
      simp only [e] at h
      cases q : frz r with
      | none => simp only [q] at h; exact h.elim
      | some d =>
        simp only [q] at h
        obtain ⟨F', S'⟩ := S.freeS1 u e q
        exact ⟨F', _, τ, S', u, h⟩
    | _ => simp only [e] at h; exact h.elim

theorem ds_for {tg iter : Expr} {src : ML} {g : MG} {is : List Nat} (hp : PassesOwn (model X.prog X.w) X.A X.env X.xe) (hc : X.calm = true) (hi : DI X c W tg iter src) (hg : DG X tg g is) (hb : DSs X c W body b)
    (hs : ∀ x, foldedSetIterable iter X.env x = pure x := by intro _; rfl) : DS X c W (.For tg iter body [] pos) (mFor src g b) := ps_imp (ps_for hp hc hi hg hb hs) fun D σ H ⟨F, δ, τ, S, u, h⟩ => by
  unfold mFor at h
  rw [Er.post_out] at h
  refine ⟨F, δ, τ, S, Er.post_mono (k' := fun ds δ' => ∀ J t H' F', SRF X.K c F' σ δ' (t ++ τ) H' → WalkOf X.K J t ds → _) h (fun ds δ1 h J t H1 F1 S1 hJ => ?_) fun _ _ q => q.kX⟩
  have ut : ∀ p ∈ t ++ τ, unslot1 p.2 = true := fun p hp => by
    rcases List.mem_append.mp hp with hp | hp
    · exact hJ.uns p hp
    · exact u p hp
  refine ⟨fun i m σ H => ∃ F δ, m = ds.length - i ∧ i ≤ ds.length ∧ SRF X.K c F σ δ (t ++ τ) H ∧ (forGo g b (ds.drop i) δ).post (nxP X.K c τ D.nx) (retP X.K c τ D.rt) (nxP X.K c τ D.bk) (nxP X.K c τ D.ct) (exP X.K X.mg c W τ),
    ⟨ds.length, F1, δ1, by simp, Nat.zero_le _, S1, h⟩, ?_⟩
  rintro i m σ' H' ⟨F', δ', rfl, hile, S', h'⟩
  by_cases hlt : i < ds.length
  · right
    refine ⟨hJ.go _ _ _ _ _ _ _ S' hlt, fun σ H => ∃ F δ, i + 1 ≤ ds.length ∧ SRF X.K c F σ δ (t ++ τ) H ∧ (forGo g b (ds.drop (i + 1)) δ).post (nxP X.K c τ D.nx) (retP X.K c τ D.rt) (nxP X.K c τ D.bk) (nxP X.K c τ D.ct) (exP X.K X.mg c W τ), ?_, ?_⟩
    · rintro σ2 H2 ⟨F2, δ2, h1, h2, h3⟩
      exact ⟨_, by omega, F2, δ2, rfl, h1, h2, h3⟩
    · intro x H2 hy
      have hdi : ds[i]? = some ds[i] := List.getElem?_eq_getElem hlt
      obtain ⟨S2, rx⟩ := hJ.yld _ _ _ _ _ _ _ _ _ _ S' hdi hy
      rw [List.drop_eq_getElem_cons hlt] at h'
      unfold forGo at h'
      cases eg : g ds[i] δ' with
      | none => rw [eg] at h'; exact h'.elim
      | some δg =>
        rw [eg] at h'
        refine ⟨c, F', δ', _, ds[i], δg, S2, rx, fun p hp j _ => uns_nslot ut p hp, eg, fun σ3 F3 S3 _ => ⟨F3, δg, t ++ τ, S3, ut, ?_⟩⟩
        cases eb : b δg with
        | nx δ4 =>
          simp only [eb] at h'
          exact fun σ5 H5 F5 S5 => ⟨F5, δ4, hlt, S5, h'⟩
        | ct δ4 =>
          simp only [eb] at h'
          exact fun σ5 H5 F5 S5 => ⟨F5, δ4, hlt, S5, h'⟩
        | brk δ4 =>
          simp only [eb] at h'
          exact fun σ5 H5 F5 S5 => h' σ5 H5 F5 S5.pops
        | ret r δ4 =>
          simp only [eb] at h'
          cases r with
          | val d => exact fun v σ5 H5 F5 S5 => h' v σ5 H5 F5 (S5.sub fun p hp => by
              rcases List.mem_cons.mp hp with e | hp
              · rw [e]; exact List.mem_cons_self
              · exact List.mem_cons_of_mem _ (List.mem_append_right _ hp))
          | own r => exact fun a σ5 H5 F5 S5 => h' a σ5 H5 F5 S5.pops
        | exc x δ4 =>
          simp only [eb] at h'
          exact fun cls dx σ5 H5 F5 S5 ie => h' cls dx σ5 H5 F5 S5.pops ie
        | stuck => simp only [eb] at h'; exact h'.elim
  · left
    have e : i = ds.length := by omega
    subst e
    refine ⟨hJ.stop _ _ _ _ _ _ S', ?_⟩
    rw [List.drop_length] at h'
    exact h' σ' H' F' S'.pops
theorem ds_while {t : Expr} {tt : MT} (hp : PassesOwn (model X.prog X.w) X.A X.env X.xe) (hc : DT X c W t tt) (hb : DSs X c W body b) : DS X c W (.While t body [] pos) (mWhile tt b) := ps_imp (ps_while hp hc hb) fun D σ H ⟨F, δ, τ, S, u, h⟩ => by
  unfold mWhile at h
  split at h
  · rename_i ex
    generalize ex.choose = n at h
    refine ⟨fun m σ H => ∃ F δ, SRF X.K c F σ δ τ H ∧ (whGo tt b m δ).post (nxP X.K c τ D.nx) (retP X.K c τ D.rt) (nxP X.K c τ D.bk) (nxP X.K c τ D.ct) (exP X.K X.mg c W τ), ⟨n, F, δ, S, h⟩, ?_⟩
    rintro m σ1 H1 ⟨F1, δ1, S1, h1⟩
    cases m with
    | zero => exact h1.elim
    | succ m =>
      unfold whGo at h1
      rw [Er.post_out] at h1
      refine ⟨F1, δ1, τ, S1, Er.post_mono h1 (fun k δ2 h2 H2 F2 S2 => ?_) fun _ _ q => q.kX⟩
      cases k with
      | false => exact iteF (h2 _ _ F2 S2)
      | true =>
        rw [if_pos rfl] at h2
        refine iteT ⟨fun σ H => ∃ F δ, SRF X.K c F σ δ τ H ∧ (whGo tt b m δ).post (nxP X.K c τ D.nx) (retP X.K c τ D.rt) (nxP X.K c τ D.bk) (nxP X.K c τ D.ct) (exP X.K X.mg c W τ), fun σ' H' q => ⟨m, Nat.lt_succ_self m, q⟩, F2, δ2, τ, S2, u, ?_⟩
        cases eb : b δ2 with
        | nx δ4 => simp only [eb] at h2; exact fun σ5 H5 F5 S5 => ⟨F5, δ4, S5, h2⟩
        | ct δ4 => simp only [eb] at h2; exact fun σ5 H5 F5 S5 => ⟨F5, δ4, S5, h2⟩
        | brk δ4 => simp only [eb] at h2; exact h2
        | ret r δ4 => simp only [eb] at h2; exact h2
        | exc x δ4 => simp only [eb] at h2; exact h2
        | stuck => simp only [eb] at h2; exact h2.elim
  · exact h.elim
end
end DL
set_option Elab.async false
set_option linter.all false
set_option maxRecDepth 100000
set_option autoImplicit false
/-! DL6: defs and calls. -/
namespace DL
open PySem PySem.Spec PyProof.Rows L2

/-- what a def is worth: m names in all, np of them parameters -/
def spD (K : PySem.W.Frag) (mg : Str → Option Value) (m np : Nat) (body : MS) : Sp := fun vs H Q E => vs.length = np ∧ ∃ (c : Ctx) (F : Nat → Addr → Prop) (as : Dl), as.length = np ∧
  SRF K c F (vs.map some ++ List.replicate (m - np) none) (as ++ List.replicate (m - np) .no) [] H ∧
  (body (as ++ List.replicate (m - np) .no)).post (nxP K c [] fun _ H' => Q .non H') (retP K c [] Q) (fun _ => False) (fun _ => False) (fun x δ' => ∀ cls dx σ' H' F', SRF K c F' σ' δ' [] H' → IsExc K mg (c.M F') H' x cls dx → E cls dx H')
theorem fn_ok {P : Program} {w : World} {K : PySem.W.Frag} {mg : Str → Option Value} {base : Heap} {x qual : Str} {st : Stmt} {f : Addr} {fd : FuncData} {N ps : List Str} {k : Nat} {body : MS} (F : Fun K x qual st f fd) (S : FnScope N ps (defScope st))
    (hb : ∀ (cdv : Value) (A : Around) (outer : List Env) (s : Shared) (H : Hp) (E : XK) (c : Ctx), Room k (A.deeper (envOfC qual (defScope st) s.heap.objs.size f cdv)) →
      DSs (cxOf (L2.CX P w) P w K mg base N qual (defScope st) f cdv A outer s H E) c (fun cls d _ H => E cls d H) (defBody st) body) : FnOk P w K mg base (L2.CX P w) (k + 1) f fd ps (spD K mg N.length ps.length body) := by
  refine F.okX S (fun vs H Q E h => h.1) fun cdv A outer s H vs Q E hr h => ?_
  obtain ⟨hl, c, F0, as, ha, S0, h⟩ := h
  refine ⟨_, hb cdv A outer s H E c hr, F0, _, [], ?_, (fun p hp => by cases hp), Out.post_mono h (fun _ q => q) (fun _ _ q => q) (fun _ q => q.elim) (fun _ q => q.elim) fun _ _ q => q⟩
  show SRF K c F0 (vs.map some ++ List.replicate (N.length - vs.length) none) _ [] H
  rw [hl]
  exact S0

def argS (δ : Dl) : D → Option Slot
  | .slot i => (match δ[i]? with
    | some (.own r) => some (.bor r)
    | some (.bor r) => some (.bor r)
    | _ => none)
  | d => some (.val d)
def argsS (δ : Dl) : List D → Option Dl
  | [] => some []
  | d :: ds => (argS δ d).bind fun s => (argsS δ ds).map fun r => s :: r
def slotsOf : List D → List Nat
  | [] => []
  | .slot i :: ds => i :: slotsOf ds
  | _ :: ds => slotsOf ds
def posOf (i : Nat) : List D → Option Nat
  | [] => none
  | .slot j :: ds => if i = j then some 0 else (posOf i ds).map (· + 1)
  | _ :: ds => (posOf i ds).map (· + 1)
def backSlot (ds : List D) (δ' : Dl) (i : Nat) (s : Slot) : Slot := match posOf i ds with
  | none => s
  | some j => match δ'[j]? with
    | some (.bor r) => (match s with
      | .own _ => .own r
      | .bor _ => .bor r
      | _ => .no)
    | _ => .no
def backGo (ds : List D) (δ' : Dl) : Nat → Dl → Dl
  | _, [] => []
  | i, s :: r => backSlot ds δ' i s :: backGo ds δ' (i + 1) r
theorem backGo_length {ds : List D} {δ' : Dl} : ∀ {i : Nat} {δ : Dl}, (backGo ds δ' i δ).length = δ.length
  | _, [] => rfl
  | _, _ :: _ => by simp [backGo, backGo_length]
theorem backGo_get {ds : List D} {δ' : Dl} : ∀ {i j : Nat} {δ : Dl}, (backGo ds δ' i δ)[j]? = (δ[j]?).map (backSlot ds δ' (i + j))
  | _, _, [] => by simp [backGo]
  | i, 0, s :: r => by simp [backGo]
  | i, j + 1, s :: r => by
    simp only [backGo, List.getElem?_cons_succ]
    rw [backGo_get]
    congr 2
    omega
theorem argsS_length {δ : Dl} : ∀ {ds : List D} {as : Dl}, argsS δ ds = some as → as.length = ds.length
  | [], as, h => by cases h; rfl
  | d :: ds, as, h => by
    unfold argsS at h
    cases e : argS δ d with
    | none => rw [e] at h; cases h
    | some s =>
      rw [e] at h
      cases e2 : argsS δ ds with
      | none => rw [e2] at h; cases h
      | some r =>
        rw [e2] at h
        cases h
        simp [argsS_length e2]
theorem argsS_get {δ : Dl} : ∀ {ds : List D} {as : Dl} {j : Nat} {d : D}, argsS δ ds = some as → ds[j]? = some d → ∃ s, argS δ d = some s ∧ as[j]? = some s
  | [], as, j, d, h, e => by simp at e
  | d0 :: ds, as, j, d, h, e => by
    unfold argsS at h
    cases e1 : argS δ d0 with
    | none => rw [e1] at h; cases h
    | some s =>
      rw [e1] at h
      cases e2 : argsS δ ds with
      | none => rw [e2] at h; cases h
      | some r =>
        rw [e2] at h
        cases h
        cases j with
        | zero =>
          simp at e
          subst e
          exact ⟨s, e1, rfl⟩
        | succ j => simpa using argsS_get e2 (by simpa using e)
theorem posOf_some {i : Nat} : ∀ {ds : List D} {j : Nat}, posOf i ds = some j → ds[j]? = some (.slot i)
  | [], j, h => by cases h
  | d :: ds, j, h => by
    have tl : ∀ {j : Nat}, (posOf i ds).map (· + 1) = some j → (d :: ds)[j]? = some (.slot i) := fun {j} h => by
      cases e : posOf i ds with
      | none => rw [e] at h; cases h
      | some k =>
        rw [e] at h
        cases h
        simpa using posOf_some e
    cases d with
    | slot k =>
      unfold posOf at h
      split at h
      · rename_i e
        cases h
        subst e
        rfl
      · exact tl h
    | _ => exact tl h
theorem posOf_none {i : Nat} : ∀ {ds : List D}, posOf i ds = none → ∀ j : Nat, ds[j]? ≠ some (D.slot i)
  | [], h, j => by simp
  | d :: ds, h, j => by
    have tl : (posOf i ds).map (· + 1) = none → ∀ j : Nat, ds[j]? ≠ some (D.slot i) := fun h => by
      cases e : posOf i ds with
      | none => exact posOf_none e
      | some k => rw [e] at h; cases h
    cases d with
    | slot k =>
      unfold posOf at h
      split at h
      · cases h
      · rename_i e
        cases j with
        | zero =>
          simp
          exact fun q => e q.symm
        | succ j => simpa using tl h j
    | _ =>
      cases j with
      | zero => simp
      | succ j => simpa using tl h j
theorem slots_mem {i : Nat} : ∀ {ds : List D} {j : Nat}, ds[j]? = some (D.slot i) → i ∈ slotsOf ds
  | [], j, h => by simp at h
  | d :: ds, j, h => by
    cases j with
    | zero =>
      simp at h
      subst h
      exact List.mem_cons_self
    | succ j =>
      have := slots_mem (ds := ds) (j := j) (by simpa using h)
      cases d <;> first | exact List.mem_cons_of_mem _ this | exact this
theorem slots_inj {i : Nat} : ∀ {ds : List D} {j k : Nat}, (slotsOf ds).Nodup → ds[j]? = some (D.slot i) → ds[k]? = some (D.slot i) → j = k
  | [], j, k, n, h, h' => by simp at h
  | d :: ds, j, k, n, h, h' => by
    cases j with
    | zero =>
      simp at h
      subst h
      cases k with
      | zero => rfl
      | succ k =>
        have := slots_mem (ds := ds) (j := k) (by simpa using h')
        exact ((List.nodup_cons.mp n).1 this).elim
    | succ j =>
      cases k with
      | zero =>
        simp at h'
        subst h'
        have := slots_mem (ds := ds) (j := j) (by simpa using h)
        exact ((List.nodup_cons.mp n).1 this).elim
      | succ k =>
        have n' : (slotsOf ds).Nodup := by cases d <;> first | exact (List.nodup_cons.mp n).2 | exact n
        have := slots_inj (ds := ds) (j := j) (k := k) n' (by simpa using h) (by simpa using h')
        omega

section
variable {K : PySem.W.Frag} {c : Ctx} {F : Nat → Addr → Prop} {σ : L2.St} {δ : Dl} {τ : List (V × D)} {H : Hp} {vs : List V} {ds : List D}
def passB (F : Nat → Addr → Prop) (ds : List D) : Addr → Prop := fun b => ∃ i j : Nat, ds[j]? = some (D.slot i) ∧ F i b
def borOf (vs : List V) (ds : List D) : List (Nat × Addr) := (List.range ds.length).filterMap fun (j : Nat) => match (ds[j]? : Option D), (vs[j]? : Option V) with
  | some (D.slot _), some (V.ref a) => some (j, a)
  | _, _ => none
def callC (c : Ctx) (F : Nat → Addr → Prop) (H : Hp) (vs : List V) (ds : List D) : Ctx := ⟨H, passB F ds, fun b => c.M F b ∧ ¬ passB F ds b, borOf vs ds⟩
theorem zip_get : ∀ {vs : List V} {ds : List D} {j : Nat} {v : V} {d : D}, vs[j]? = some v → ds[j]? = some d → (v, d) ∈ zipT vs ds
  | [], _, j, _, _, h, _ => by simp at h
  | _ :: _, [], j, _, _, _, h => by simp at h
  | v0 :: vs, d0 :: ds, 0, v, d, h, h' => by
    simp at h h'
    subst h h'
    exact List.mem_cons_self
  | v0 :: vs, d0 :: ds, j + 1, v, d, h, h' => List.mem_cons_of_mem _ (zip_get (by simpa using h) (by simpa using h'))
theorem argS_val {d : D} {s : Slot} (h : argS δ d = some s) : (∃ i r, d = .slot i ∧ IsRes δ i r ∧ s = .bor r) ∨ (unslot1 d = true ∧ s = .val d) := by
  cases d with
  | slot i =>
    left
    unfold argS at h
    simp only at h
    split at h
    · rename_i r q
      cases h
      exact ⟨i, r, rfl, .inl q, rfl⟩
    · rename_i r q
      cases h
      exact ⟨i, r, rfl, .inr q, rfl⟩
    · cases h
  | _ => right; cases h; exact ⟨rfl, rfl⟩
theorem call_enter {as : Dl} {n : Nat} (S : SRF K c F σ δ (zipT vs ds ++ τ) H) (hl : vs.length = ds.length) (ha : argsS δ ds = some as) (nd : (slotsOf ds).Nodup) :
    SRF K (callC c F H vs ds) (fun j b => ∃ i, ds[j]? = some (D.slot i) ∧ F i b) (vs.map some ++ List.replicate n none) (as ++ List.replicate n .no) [] H := by
  have hla := argsS_length ha
  have inas : ∀ {j : Nat} {s : Slot}, (as ++ List.replicate n Slot.no)[j]? = some s → (s ≠ .no → ∃ d v, ds[j]? = some d ∧ vs[j]? = some v ∧ argS δ d = some s) := fun {j s} h ne => by
    by_cases hj : j < as.length
    · rw [List.getElem?_append_left hj] at h
      have hd : ds[j]? = some ds[j] := List.getElem?_eq_getElem (by omega)
      have hv : vs[j]? = some vs[j] := List.getElem?_eq_getElem (by omega)
      obtain ⟨s', h1, h2⟩ := argsS_get ha hd
      rw [h] at h2
      cases h2
      exact ⟨_, _, hd, hv, h1⟩
    · rw [List.getElem?_append_right (by omega)] at h
      have := List.mem_of_getElem? h
      rw [List.mem_replicate] at this
      exact (ne this.2).elim
  have vget : ∀ {j : Nat} {v : V}, vs[j]? = some v → (vs.map some ++ List.replicate n none)[j]? = some (some v) := fun {j v} h => by
    have hj := (List.getElem?_eq_some_iff.mp h).1
    rw [List.getElem?_append_left (by simpa using hj), List.getElem?_map, h]
    rfl
  have le : ∀ b, (callC c F H vs ds).M (fun j b => ∃ i, ds[j]? = some (D.slot i) ∧ F i b) b → c.M F b := fun b h => by
    rcases h with h | ⟨j, i, _, h⟩
    · exact h.1
    · exact .inr ⟨i, h⟩
  have km := mv_le (H := H) le
  refine ⟨by simp [hl, hla], fun j d e => ?_, fun j r e => ?_, fun j b h => ?_, fun j k b h h' => ?_, fun j b h q => ?_, fun j b h => ?_, fun b h => ?_, fun b o e _ => e, fun p hp => ?_, fun p hp => by cases hp⟩
  · obtain ⟨d', v, h1, h2, h3⟩ := inas e (by intro z; cases z)
    rcases argS_val h3 with ⟨i, r, _, _, z⟩ | ⟨u, z⟩
    · cases z
    · cases z
      exact ⟨v, vget h2, ((S.tmp _ (List.mem_append_left _ (zip_get h2 h1))).rep u).mv km⟩
  · have e' : ∃ s, (as ++ List.replicate n Slot.no)[j]? = some s ∧ (s = .own r ∨ s = .bor r) := by
      rcases e with e | e
      · exact ⟨_, e, .inl rfl⟩
      · exact ⟨_, e, .inr rfl⟩
    obtain ⟨s, e1, e2⟩ := e'
    obtain ⟨d', v, h1, h2, h3⟩ := inas e1 (by intro z; rw [z] at e2; rcases e2 with e2 | e2 <;> cases e2)
    rcases argS_val h3 with ⟨i, r', rfl, hr, z⟩ | ⟨u, z⟩
    · subst z
      rcases e2 with e2 | e2 <;> cases e2
      obtain ⟨a, q1, q2⟩ := S.res i r hr
      rcases S.tmp _ (List.mem_append_left _ (zip_get h2 h1)) with ⟨i', r2, e3, q3, _⟩ | q3
      · cases e3
        rw [q1] at q3
        cases q3
        refine ⟨a, vget h2, ?_⟩
        have z : (fun b => ∃ i, ds[j]? = some (D.slot i) ∧ F i b) = F i := by
          funext b
          refine propext ⟨fun ⟨i', h, h'⟩ => ?_, fun h => ⟨i, h1, h⟩⟩
          rw [h1] at h
          cases h
          exact h'
        show RAt K _ H a r (fun b => ∃ i, ds[j]? = some (D.slot i) ∧ F i b)
        rw [z]
        exact q2.mv km fun _ _ => rfl
      · exact (rep_ns q3).elim
    · subst z
      rcases e2 with e2 | e2 <;> cases e2
  · obtain ⟨i, h1, h2⟩ := h
    obtain ⟨r, hr⟩ := S.off i b h2
    obtain ⟨s, q1, q2⟩ := argsS_get ha h1
    rcases argS_val q1 with ⟨i', r', e, hr', z⟩ | ⟨u, z⟩
    · subst z
      refine ⟨r', .inr ?_⟩
      rw [List.getElem?_append_left (List.getElem?_eq_some_iff.mp q2).1]
      exact q2
    · cases u
  · obtain ⟨i, h1, h2⟩ := h
    obtain ⟨i', h3, h4⟩ := h'
    have := S.dis i i' b h2 h4
    subst this
    exact slots_inj nd h1 h3
  · obtain ⟨i, h1, h2⟩ := h
    exact q.2 ⟨i, j, h1, h2⟩
  · obtain ⟨i, h1, h2⟩ := h
    exact .inr ⟨i, j, h1, h2⟩
  · exact ⟨S.mdom h.1, h.2⟩
  · obtain ⟨j, hj, e⟩ := List.mem_filterMap.mp hp
    split at e
    · rename_i i a h1 h2
      cases e
      refine ⟨vget h2, ?_⟩
      obtain ⟨s, q1, q2⟩ := argsS_get ha h1
      rcases argS_val q1 with ⟨i', r', e, hr', z⟩ | ⟨u, z⟩
      · subst z
        refine ⟨r', ?_⟩
        rw [List.getElem?_append_left (List.getElem?_eq_some_iff.mp q2).1]
        exact q2
      · cases u
    · cases e

theorem call_leave {F2 : Nat → Addr → Prop} {σ' : L2.St} {δ' : Dl} {τ2 : List (V × D)} {H2 : Hp} {o : Option V} {s : Slot} {as : Dl} (S : SRF K c F σ δ (zipT vs ds ++ τ) H) (hl : vs.length = ds.length) (ha : argsS δ ds = some as) (nd : (slotsOf ds).Nodup)
    (S2 : SRF K (callC c F H vs ds) F2 (σ' ++ [o]) (δ' ++ [s]) τ2 H2) (hs : s = .no ∨ ∃ r, s = .own r) (ut : ∀ p ∈ τ2, unslot1 p.2 = true) :
    ∃ F3, SRF K c F3 (σ ++ [o]) (backGo ds δ' 0 δ ++ [s]) (τ2 ++ τ) H2 ∧ ∀ b, c.M F3 b → (callC c F H vs ds).M F2 b := by
  have l' : σ'.length = δ'.length := by have := S2.len; simpa using this
  have pb : ∀ {b}, passB F ds b → c.M F b := fun {b} ⟨i, j, _, h⟩ => .inr ⟨i, h⟩
  -- the borrowed ones come back
  have bor : ∀ {i j : Nat}, ds[j]? = some (D.slot i) → ∃ a r r0, vs[j]? = some (.ref a) ∧ σ[i]? = some (some (.ref a)) ∧ IsRes δ i r0 ∧ j < δ'.length ∧ δ'[j]? = some (Slot.bor r) ∧ σ'[j]? = some (some (.ref a)) := fun {i j} h => by
    have hj : j < ds.length := (List.getElem?_eq_some_iff.mp h).1
    have hv : vs[j]? = some vs[j] := List.getElem?_eq_getElem (by omega)
    rcases S.tmp _ (List.mem_append_left _ (zip_get hv h)) with ⟨i', r0, e3, q3, q4⟩ | q3
    · cases e3
      obtain ⟨a, q1, _⟩ := S.res i r0 q4
      rw [q3] at q1
      have ev : vs[j] = .ref a := by simpa using q1
      have mem : (j, a) ∈ borOf vs ds := List.mem_filterMap.mpr ⟨j, List.mem_range.mpr hj, by rw [h, hv, ev]⟩
      obtain ⟨h1, r, h2⟩ := S2.bor (j, a) mem
      have h2 : (δ' ++ [s])[j]? = some (Slot.bor r) := h2
      have h1 : (σ' ++ [o])[j]? = some (some (.ref a)) := h1
      have lj : j < δ'.length := by
        by_cases lj : j < δ'.length
        · exact lj
        · have l2 := (List.getElem?_eq_some_iff.mp h2).1
          rw [List.length_append, List.length_singleton] at l2
          have e : j = δ'.length := by omega
          rw [e, List.getElem?_append_right (Nat.le_refl _)] at h2
          simp at h2
          rcases hs with hs | ⟨r, hs⟩ <;> (rw [hs] at h2; cases h2)
      rw [List.getElem?_append_left lj] at h2
      rw [List.getElem?_append_left (by rw [l']; exact lj)] at h1
      exact ⟨a, r, r0, by rw [hv, ev], by rw [q3, ev], q4, lj, h2, h1⟩
    · exact (rep_ns q3).elim
  have none_of : ∀ {b}, c.H0 b = none ∨ c.B b ∨ ∃ o, c.H0 b = some o ∧ ¬ c.B b := fun {b} => by
    cases e : c.H0 b with
    | none => exact .inl rfl
    | some u =>
      by_cases h : c.B b
      · exact .inr (.inl h)
      · exact .inr (.inr ⟨u, rfl, h⟩)
  have old : ∀ {b}, H b = none → c.H0 b = none ∨ c.B b := fun {b} e => by
    rcases none_of (b := b) with h | h | ⟨u, h1, h2⟩
    · exact .inl h
    · exact .inr h
    · have := S.keep b u h1 h2
      rw [e] at this
      cases this
  have new2 : ∀ {j b}, F2 j b → c.H0 b = none ∨ c.B b := fun {j b} h => by
    rcases S2.new j b h with q | ⟨i, k, _, q⟩
    · exact old q
    · exact S.new i b q
  have G2 : ∀ {b}, c.G b → (callC c F H vs ds).G b := fun {b} h => ⟨.inl h, fun ⟨i, j, _, q⟩ => S.out i b q h⟩
  have rest : ∀ {i b}, (∀ j : Nat, ds[j]? ≠ some (D.slot i)) → F i b → (callC c F H vs ds).G b := fun {i b} n h => ⟨.inr ⟨i, h⟩, fun ⟨i', j, q, h'⟩ => by
    have := S.dis i i' b h h'
    subst this
    exact n j q⟩
  let F3 : Nat → Addr → Prop := fun i b => (i = δ.length ∧ F2 δ'.length b) ∨ (i < δ.length ∧ ((∃ j : Nat, ds[j]? = some (D.slot i) ∧ F2 j b) ∨ ((∀ j : Nat, ds[j]? ≠ some (D.slot i)) ∧ F i b)))
  have m3 : ∀ {b}, c.M F3 b → (callC c F H vs ds).M F2 b := fun {b} h => by
    rcases h with h | ⟨i, ⟨_, h⟩ | ⟨_, ⟨j, _, h⟩ | ⟨n, h⟩⟩⟩
    · exact .inl (G2 h)
    · exact .inr ⟨_, h⟩
    · exact .inr ⟨_, h⟩
    · exact .inl (rest n h)
  have km2 := mv_le (H := H2) (fun b h => m3 (b := b) h)
  have km : Mv (c.M F) H (c.M F3) H2 := fun b u e n => by
    have nb : ¬ passB F ds b := fun h => n (pb h)
    refine ⟨S2.keep b u e nb, fun h => ?_⟩
    rcases m3 h with h | ⟨j, h⟩
    · exact n h.1
    · rcases S2.new j b h with q | q
      · have q : H b = none := q
        rw [e] at q
        cases q
      · exact nb q
  have lδ : (backGo ds δ' 0 δ).length = δ.length := backGo_length
  have bget : ∀ {i : Nat}, (backGo ds δ' 0 δ)[i]? = (δ[i]?).map (backSlot ds δ' i) := fun {i} => by rw [backGo_get, Nat.zero_add]
  have bsome : ∀ {i j : Nat} {s0 : Slot}, posOf i ds = some j → δ[i]? = some s0 → ∃ r, δ'[j]? = some (Slot.bor r) ∧ ((∃ r0, s0 = .own r0 ∧ (backGo ds δ' 0 δ)[i]? = some (Slot.own r)) ∨ ∃ r0, s0 = .bor r0 ∧ (backGo ds δ' 0 δ)[i]? = some (Slot.bor r)) := fun {i j s0} h e => by
    obtain ⟨a, r, r0, _, _, h3, h4, h5, _⟩ := bor (posOf_some h)
    refine ⟨r, h5, ?_⟩
    rw [bget, e]
    unfold backSlot
    simp only [Option.map_some, h, h5]
    rcases h3 with h3 | h3
    · rw [e] at h3
      cases h3
      exact .inl ⟨_, rfl, rfl⟩
    · rw [e] at h3
      cases h3
      exact .inr ⟨_, rfl, rfl⟩
  have bnone : ∀ {i : Nat}, posOf i ds = none → (backGo ds δ' 0 δ)[i]? = δ[i]? := fun {i} h => by
    rw [bget]
    unfold backSlot
    simp only [h]
    cases δ[i]? <;> rfl
  have eR : ∀ {i : Nat}, i < δ.length → posOf i ds = none → F3 i = F i := fun {i} hi h => by
    funext b
    refine propext ⟨fun q => ?_, fun q => .inr ⟨hi, .inr ⟨posOf_none h, q⟩⟩⟩
    rcases q with ⟨e, _⟩ | ⟨_, ⟨j, q, _⟩ | ⟨_, q⟩⟩
    · omega
    · exact (posOf_none h j q).elim
    · exact q
  have eP : ∀ {i j : Nat}, i < δ.length → posOf i ds = some j → F3 i = F2 j := fun {i j} hi h => by
    funext b
    refine propext ⟨fun q => ?_, fun q => .inr ⟨hi, .inl ⟨j, posOf_some h, q⟩⟩⟩
    rcases q with ⟨e, _⟩ | ⟨_, ⟨k, q, q'⟩ | ⟨n, q⟩⟩
    · omega
    · rw [slots_inj nd (posOf_some h) q]
      exact q'
    · exact (n j (posOf_some h)).elim
  have eN : F3 δ.length = F2 δ'.length := by
    funext b
    refine propext ⟨fun q => ?_, fun q => .inl ⟨rfl, q⟩⟩
    rcases q with ⟨_, q⟩ | ⟨h, _⟩
    · exact q
    · exact absurd h (Nat.lt_irrefl _)
  have resB : ∀ {i : Nat} {r : R}, IsRes (backGo ds δ' 0 δ) i r → (posOf i ds = none ∧ IsRes δ i r) ∨ ∃ j, posOf i ds = some j ∧ δ'[j]? = some (Slot.bor r) ∧ i < δ.length := fun {i r} h => by
    have hi : i < δ.length := by rw [← lδ]; exact h.lt
    cases e : posOf i ds with
    | none =>
      left
      unfold IsRes at h
      rw [bnone e] at h
      exact ⟨rfl, h⟩
    | some j =>
      right
      obtain ⟨r1, h1, h2⟩ := bsome e (List.getElem?_eq_getElem hi)
      refine ⟨j, rfl, ?_, hi⟩
      rcases h2 with ⟨_, _, h2⟩ | ⟨_, _, h2⟩
      · rcases h with h | h
        · rw [h2] at h; cases h; exact h1
        · rw [h2] at h; cases h
      · rcases h with h | h
        · rw [h2] at h; cases h
        · rw [h2] at h; cases h; exact h1
  have resB2 : ∀ {i : Nat} {r : R}, IsRes δ i r → ∃ r', IsRes (backGo ds δ' 0 δ) i r' := fun {i r} h => by
    have hi := h.lt
    cases e : posOf i ds with
    | none => exact ⟨r, by unfold IsRes; rw [bnone e]; exact h⟩
    | some j =>
      obtain ⟨r1, h1, h2⟩ := bsome e (List.getElem?_eq_getElem hi)
      rcases h2 with ⟨_, _, h2⟩ | ⟨_, _, h2⟩
      · exact ⟨r1, .inl h2⟩
      · exact ⟨r1, .inr h2⟩
  refine ⟨F3, ⟨by simp [S.len, lδ], fun i d e => ?_, fun i r e => ?_, fun i b h => ?_, fun i k b h h' => ?_, fun i b h => ?_, fun i b h => ?_, S.gdom, fun b u e n => ?_, fun p hp => ?_, fun p hp => ?_⟩, fun b h => m3 h⟩
  · -- values
    by_cases hi : i < δ.length
    · rw [List.getElem?_append_left (by rw [lδ]; exact hi)] at e
      cases ep : posOf i ds with
      | none =>
        rw [bnone ep] at e
        obtain ⟨v, h1, h2⟩ := S.val i d e
        exact ⟨v, by rw [List.getElem?_append_left (by rw [S.len]; exact hi)]; exact h1, h2.mv km⟩
      | some j =>
        obtain ⟨r1, _, h2⟩ := bsome ep (List.getElem?_eq_getElem hi)
        rcases h2 with ⟨_, _, h2⟩ | ⟨_, _, h2⟩ <;> (rw [h2] at e; cases e)
    · rw [List.getElem?_append_right (by omega)] at e
      cases h : i - (backGo ds δ' 0 δ).length with
      | zero =>
        rw [h] at e
        simp at e
        rcases hs with hs | ⟨r, hs⟩ <;> (rw [hs] at e; cases e)
      | succ n => rw [h] at e; cases e
  · -- owned and borrowed things
    rcases isRes_app.mp e with h | ⟨h, h'⟩
    · have hi : i < δ.length := by rw [← lδ]; exact h.lt
      rcases resB h with ⟨ep, h⟩ | ⟨j, ep, h, _⟩
      · obtain ⟨a, h1, h2⟩ := S.res i r h
        refine ⟨a, by rw [List.getElem?_append_left (by rw [S.len]; exact hi)]; exact h1, ?_⟩
        rw [eR hi ep]
        refine h2.mv km fun b hb => ?_
        obtain ⟨u, hu⟩ := S.dom i b hb
        rw [hu]
        exact S2.keep b u hu (rest (posOf_none ep) hb).2
      · obtain ⟨a, r1, r0, h1, h2, h3, h4, h5, h6⟩ := bor (posOf_some ep)
        rw [h] at h5
        cases h5
        obtain ⟨a', q1, q2⟩ := S2.res j r (.inr (by rw [List.getElem?_append_left h4]; exact h))
        rw [List.getElem?_append_left (by rw [l']; exact h4), h6] at q1
        cases q1
        refine ⟨a, by rw [List.getElem?_append_left (by rw [S.len]; exact hi)]; exact h2, ?_⟩
        rw [eP hi ep]
        exact q2.mv km2 fun _ _ => rfl
    · rw [lδ] at h
      subst h
      have hr : s = .own r := by
        rcases hs with hs | ⟨r', hs⟩
        · rw [hs] at h'
          rcases h' with h' | h' <;> cases h'
        · rw [hs] at h' ⊢
          rcases h' with h' | h'
          · exact h'
          · cases h'
      obtain ⟨a', q1, q2⟩ := S2.res δ'.length r (isRes_app.mpr (.inr ⟨rfl, .inl hr⟩))
      rw [List.getElem?_append_right (by rw [l']; exact Nat.le_refl _), l'] at q1
      simp at q1
      refine ⟨a', by rw [List.getElem?_append_right (by rw [S.len]; exact Nat.le_refl _), S.len]; simp [q1], ?_⟩
      rw [eN]
      exact q2.mv km2 fun _ _ => rfl
  · rcases h with ⟨h, q⟩ | ⟨hi, ⟨j, hj, q⟩ | ⟨n, q⟩⟩
    · obtain ⟨r, hr⟩ := S2.off _ b q
      rcases isRes_app.mp hr with hr | ⟨_, hr⟩
      · exact absurd hr.lt (Nat.lt_irrefl _)
      · exact ⟨r, isRes_app.mpr (.inr ⟨by rw [lδ]; exact h, hr⟩)⟩
    · obtain ⟨a, r1, r0, h1, h2, h3, h4, h5, h6⟩ := bor hj
      obtain ⟨r', q'⟩ := resB2 h3
      exact ⟨r', isRes_app.mpr (.inl q')⟩
    · obtain ⟨r, hr⟩ := S.off i b q
      obtain ⟨r', q'⟩ := resB2 hr
      exact ⟨r', isRes_app.mpr (.inl q')⟩
  · -- apart
    have cas : ∀ {i b}, F3 i b → (∃ j, F2 j b ∧ ((i = δ.length ∧ j = δ'.length) ∨ (i < δ.length ∧ ds[j]? = some (D.slot i)))) ∨ (i < δ.length ∧ (∀ j : Nat, ds[j]? ≠ some (D.slot i)) ∧ F i b) := fun {i b} h => by
      rcases h with ⟨h, q⟩ | ⟨hi, ⟨j, hj, q⟩ | ⟨n, q⟩⟩
      · exact .inl ⟨_, q, .inl ⟨h, rfl⟩⟩
      · exact .inl ⟨j, q, .inr ⟨hi, hj⟩⟩
      · exact .inr ⟨hi, n, q⟩
    rcases cas h with ⟨j, q, w⟩ | ⟨hi, n, q⟩
    · rcases cas h' with ⟨j', q', w'⟩ | ⟨hi', n', q'⟩
      · have := S2.dis j j' b q q'
        subst this
        rcases w with ⟨w1, w2⟩ | ⟨w1, w2⟩
        · rcases w' with ⟨w3, w4⟩ | ⟨w3, w4⟩
          · omega
          · obtain ⟨_, _, _, _, _, _, h4, _⟩ := bor w4
            omega
        · rcases w' with ⟨w3, w4⟩ | ⟨w3, w4⟩
          · obtain ⟨_, _, _, _, _, _, h4, _⟩ := bor w2
            omega
          · rw [w2] at w4
            cases w4
            rfl
      · exact (S2.out j b q (rest n' q')).elim
    · rcases cas h' with ⟨j', q', w'⟩ | ⟨hi', n', q'⟩
      · exact (S2.out j' b q' (rest n q)).elim
      · exact S.dis i k b q q'
  · intro g
    rcases h with ⟨h, q⟩ | ⟨hi, ⟨j, hj, q⟩ | ⟨n, q⟩⟩
    · exact S2.out _ b q (G2 g)
    · exact S2.out _ b q (G2 g)
    · exact S.out i b q g
  · rcases h with ⟨h, q⟩ | ⟨hi, ⟨j, hj, q⟩ | ⟨n, q⟩⟩
    · exact new2 q
    · exact new2 q
    · exact S.new i b q
  · refine S2.keep b u (S.keep b u e n) fun ⟨i, j, _, q⟩ => ?_
    rcases S.new i b q with z | z
    · rw [e] at z; cases z
    · exact n z
  · obtain ⟨h1, r, h2⟩ := S.bor p hp
    have l : p.1 < δ.length := (List.getElem?_eq_some_iff.mp h2).1
    refine ⟨by rw [List.getElem?_append_left (by rw [S.len]; exact l)]; exact h1, ?_⟩
    rw [List.getElem?_append_left (by rw [lδ]; exact l)]
    cases ep : posOf p.1 ds with
    | none => exact ⟨r, by rw [bnone ep]; exact h2⟩
    | some j =>
      obtain ⟨r1, _, q⟩ := bsome ep h2
      rcases q with ⟨_, q, _⟩ | ⟨_, _, q⟩
      · cases q
      · exact ⟨r1, q⟩
  · rcases List.mem_append.mp hp with hp | hp
    · exact .inr (((S2.tmp p hp).rep (ut p hp)).mv km2)
    · refine ((S.tmp p (List.mem_append_right _ hp)).mv km).st fun i r e q => ?_
      obtain ⟨r', q'⟩ := resB2 q
      exact ⟨List.getElem?_append_left (by rw [S.len]; exact q.lt), r', isRes_app.mpr (.inl q')⟩
end
end DL
set_option Elab.async false
set_option linter.all false
set_option maxRecDepth 100000
set_option autoImplicit false
/-! DL7: calls, raise, try. -/
namespace DL
open PySem PySem.Spec PyProof.Rows L2

def mCallG {α : Type} (m np : Nat) (body : MS) (dds : List D) (ms : ML) (kv : D → Dl → Er α) (ko : R → Dl → Er α) : Dl → Er α := fun δ => (ms δ).bind fun ds0 δ1 =>
  match argsS δ1 (ds0 ++ dds) with
  | none => .stuck
  | some as => if (slotsOf (ds0 ++ dds)).Nodup ∧ (ds0 ++ dds).length = np then
      match body (as ++ List.replicate (m - np) .no) with
      | .nx δ' => kv .non (backGo (ds0 ++ dds) δ' 0 δ1)
      | .ret (.val d) δ' => if unslot1 d = true then kv d (backGo (ds0 ++ dds) δ' 0 δ1) else .stuck
      | .ret (.own r) δ' => ko r (backGo (ds0 ++ dds) δ' 0 δ1)
      | .exc x δ' => .exc x (backGo (ds0 ++ dds) δ' 0 δ1)
      | _ => .stuck
    else .stuck
/-- a def's call: its value; a new list or dict is frozen -/
def mCall (m np : Nat) (body : MS) (dds : List D) (ms : ML) : ME := mCallG m np body dds ms (fun d δ => .ok d δ) (fun r δ => optE (frz r) δ)
/-- a def's call that gives a new thing -/
def mCallF (m np : Nat) (body : MS) (dds : List D) (ms : ML) : Dl → Er R := fun δ => mCallG m np body dds ms (fun _ _ => .stuck) (fun r δ1 => if δ1.length = δ.length then .ok r δ1 else .stuck) δ
section
variable {K : PySem.W.Frag} {mg : Str → Option Value} {c : Ctx} {W : WX}
theorem isExc_mv {M M' : Addr → Prop} {H H' : Hp} {x : Ex} {cls : Value} {dx : Option Addr} (k : Mv M H M' H') (h : IsExc K mg M H x cls dx) : IsExc K mg M' H' x cls dx := by
  refine ⟨h.1, fun n => ?_⟩
  obtain ⟨a, fs, h1, h2, h3, h4⟩ := h.2 n
  refine ⟨a, fs, h1, (k a _ h2 h3).1, (k a _ h2 h3).2, fun f d e => ?_⟩
  obtain ⟨v, q1, q2⟩ := h4 f d e
  exact ⟨v, q1, q2.mv k⟩
theorem zipT_append {vs ws : List V} {ds es : List D} (h : vs.length = ds.length) : zipT (vs ++ ws) (ds ++ es) = zipT vs ds ++ zipT ws es := by
  induction vs generalizing ds with
  | nil =>
    cases ds with
    | nil => rfl
    | cons _ _ => cases h
  | cons v vs ih =>
    cases ds with
    | nil => cases h
    | cons d ds =>
      show (v, d) :: zipT (vs ++ ws) (ds ++ es) = (v, d) :: (zipT vs ds ++ zipT ws es)
      rw [ih (by simpa using h)]
theorem SRF.addNo {F : Nat → Addr → Prop} {σ : L2.St} {δ : Dl} {τ : List (V × D)} {H : Hp} {o : Option V} (S : SRF K c F σ δ τ H) : SRF K c F (σ ++ [o]) (δ ++ [.no]) τ H := by
  refine ⟨by simp [S.len], fun i d e => ?_, fun i r e => ?_, fun i b h => ?_, S.dis, S.out, S.new, S.gdom, S.keep, fun p hp => ?_, fun p hp => (S.tmp p hp).st fun i r e q => ⟨List.getElem?_append_left (by rw [S.len]; exact q.lt), r, isRes_app.mpr (.inl q)⟩⟩
  · by_cases hi : i < δ.length
    · rw [List.getElem?_append_left hi] at e
      obtain ⟨v, h1, h2⟩ := S.val i d e
      exact ⟨v, by rw [List.getElem?_append_left (by rw [S.len]; exact hi)]; exact h1, h2⟩
    · rw [List.getElem?_append_right (by omega)] at e
      cases h : i - δ.length with
      | zero => rw [h] at e; cases e
      | succ n => rw [h] at e; cases e
  · rcases isRes_app.mp e with q | ⟨_, q⟩
    · obtain ⟨a, h1, h2⟩ := S.res i r q
      exact ⟨a, by rw [List.getElem?_append_left (by rw [S.len]; exact q.lt)]; exact h1, h2⟩
    · rcases q with q | q <;> cases q
  · obtain ⟨r, q⟩ := S.off i b h
    exact ⟨r, isRes_app.mpr (.inl q)⟩
  · obtain ⟨h1, r, h2⟩ := S.bor p hp
    have l : p.1 < δ.length := (List.getElem?_eq_some_iff.mp h2).1
    exact ⟨by rw [List.getElem?_append_left (by rw [S.len]; exact l)]; exact h1, r, by rw [List.getElem?_append_left l]; exact h2⟩
theorem callG_imp {α : Type} {m np : Nat} {body : MS} {dds : List D} {dvs : List V} {ms : ML} {kv : D → Dl → Er α} {ko : R → Dl → Er α} {σ : L2.St} {H : Hp} {Q : VK} {P : α → Dl → Prop}
    (hd : ∀ M H, RepL K M H dvs dds) (F : Nat → Addr → Prop) (δ : Dl) (τ : List (V × D)) (S : SRF K c F σ δ τ H) (h : (mCallG m np body dds ms kv ko δ).post P (kX K mg c W σ τ))
    (hkv : ∀ d δ1 v H' F', (kv d δ1).post P (kX K mg c W σ τ) → δ1.length = δ.length → SRF K c F' σ δ1 ((v, d) :: τ) H' → Q v H')
    (hko : ∀ r δ1 a H' F', (ko r δ1).post P (kX K mg c W σ τ) → δ1.length = δ.length → SRF K c F' (σ ++ [some (.ref a)]) (δ1 ++ [.own r]) τ H' → Q (.ref a) H') :
    tCallSD (spD K mg m np body) dvs (WE W) (tDA K mg c W ms) σ H Q := by
  unfold mCallG at h
  rw [Er.post_bind] at h
  refine ⟨F, δ, τ, S, Er.post_mono h (fun ds0 δ1 h vs0 H1 F1 hl0 S0 => ?_) fun _ _ q => q⟩
  cases ea : argsS δ1 (ds0 ++ dds) with
  | none => rw [ea] at h; exact h.elim
  | some as =>
    simp only [ea] at h
    split at h
    · rename_i hc
      obtain ⟨nd, hnp⟩ := hc
      have dl : dvs.length = dds.length := (hd (fun _ => False) H1).length
      have hl : (vs0 ++ dvs).length = (ds0 ++ dds).length := by simp [hl0, dl]
      have S1 : SRF K c F1 σ δ1 (zipT (vs0 ++ dvs) (ds0 ++ dds) ++ τ) H1 := by
        rw [zipT_append hl0]
        refine S0.tmps fun p hp => ?_
        rcases List.mem_append.mp hp with hp | hp
        · rcases List.mem_append.mp hp with hp | hp
          · exact S0.tmp p (List.mem_append_left _ hp)
          · exact .inr (zip_mem (hd _ _) hp)
        · exact S0.tmp p (List.mem_append_right _ hp)
      have ld : δ1.length = δ.length := by
        have q1 := S1.len
        have q2 := S.len
        omega
      have E := call_enter (n := m - np) S1 hl ea nd
      have hla := argsS_length ea
      refine ⟨by rw [hl]; exact hnp, _, _, as, by rw [hla]; exact hnp, E, ?_⟩
      have Ln : ∀ {F2 σ' δ' τ2 H2}, SRF K (callC c F1 H1 (vs0 ++ dvs) (ds0 ++ dds)) F2 σ' δ' τ2 H2 → (∀ p ∈ τ2, unslot1 p.2 = true) → ∃ F3, SRF K c F3 σ (backGo (ds0 ++ dds) δ' 0 δ1) (τ2 ++ τ) H2 := fun {F2 σ' δ' τ2 H2} S2 ut => by
        obtain ⟨F3, S3, _⟩ := call_leave (o := none) (s := .no) S1 hl ea nd S2.addNo (.inl rfl) ut
        refine ⟨_, S3.pop (fun r h => by cases h) fun p hp e => ?_⟩
        rw [backGo_length] at e
        rcases List.mem_append.mp hp with hp | hp
        · have := ut p hp
          rw [e] at this
          cases this
        · exact S0.nslot (n := δ1.length) (Nat.le_refl _) p (List.mem_append_right _ hp) e
      cases eb : body (as ++ List.replicate (m - np) Slot.no) with
      | nx δ' =>
        simp only [eb] at h
        intro σ' H2 F2 S2
        obtain ⟨F3, S3⟩ := Ln S2 (fun p hp => by cases hp)
        exact hkv .non _ _ _ _ h (by rw [backGo_length, ld]) (S3.push (.inr .non))
      | ret r δ' =>
        cases r with
        | val d =>
          simp only [eb] at h
          split at h
          · rename_i hu
            intro v σ' H2 F2 S2
            obtain ⟨F3, S3⟩ := Ln S2 (fun p hp => by rw [List.mem_singleton.mp hp]; exact hu)
            exact hkv d _ _ _ _ h (by rw [backGo_length, ld]) S3
          · exact h.elim
        | own r =>
          simp only [eb] at h
          intro a σ' H2 F2 S2
          obtain ⟨F3, S3, _⟩ := call_leave S1 hl ea nd S2 (.inr ⟨r, rfl⟩) (fun p hp => by cases hp)
          exact hko r _ _ _ _ h (by rw [backGo_length, ld]) S3
      | brk δ' => simp only [eb] at h; exact h.elim
      | ct δ' => simp only [eb] at h; exact h.elim
      | exc x δ' =>
        simp only [eb] at h
        intro cls dx σ' H2 F2 S2 ie
        obtain ⟨F3, S3, m3⟩ := call_leave (o := none) (s := .no) S1 hl ea nd S2.addNo (.inl rfl) (fun p hp => by cases hp)
        have S4 := S3.pop (fun r h => by cases h) fun p hp e => by
          rw [backGo_length] at e
          exact S0.nslot (n := δ1.length) (Nat.le_refl _) p (List.mem_append_right _ hp) e
        have h : kX K mg c W σ τ x (backGo (ds0 ++ dds) δ' 0 δ1) := h
        refine h cls dx H2 _ S4 (isExc_mv (mv_le fun b q => m3 b ?_) ie)
        rcases q with q | ⟨j, _, q⟩
        · exact .inl q
        · exact .inr ⟨j, q⟩
      | stuck => simp only [eb] at h; exact h.elim
    · exact h.elim
end
section
variable {X : Cx} {c : Ctx} {W : WX} {e : Expr} {es : List Expr} {pos p : Pos} {k m np : Nat} {f : Addr} {fd : FuncData} {ps : List Str} {body : MS} {dvs : List V} {dvals : List Value} {dds : List D} {ms : ML} {x : Str}
theorem de_call (F : FnOk X.prog X.w X.K X.mg X.base (L2.CX X.prog X.w) k f fd ps (spD X.K X.mg m np body)) (hr : Room k X.A) (hg : Gl X x) (hm : X.mg x = some (.ref f)) (hk : PySem.W.keepIn X.K (.ref f) = true) (hb : Binds X.K fd ps dvals) (hd : Vals dvs dvals) (hx : ∀ σ, PassesAt (L2.CX X.prog X.w) X σ (WE W σ))
    (hdd : ∀ M H, RepL X.K M H dvs dds) (ha : DA X c W (e :: es) ms) (hdb : (x == ("__debug__" : Str)) = false := by decide) (he : starEach (e :: es) X.env = (false, eval e X.env) :: starEach es X.env := by rfl) (hpl : (backTo pos (starEach es X.env)).any (·.1) = false := by rfl) :
    DE X c W (.Call (.Name x p) (e :: es) [] pos) (mCall m np body dds ms) :=
  pe_imp (pe_callSD F hr hg hm hk hb hd hx ha hdb he hpl) fun σ H Q ⟨F0, δ, τ, S, h⟩ => callG_imp hdd F0 δ τ S h (fun d δ1 v H' F' q hl S' => q v H' F' S') fun r δ1 a H' F' q hl S' => by
    have hτ := S.nslot (n := δ1.length) (by omega)
    cases r with
    | lst ds => exact q _ _ _ (S'.freezeL hτ)
    | dic ds => exact q _ _ _ (S'.freezeK hτ)
    | abs A => exact q.elim
theorem df_call (F : FnOk X.prog X.w X.K X.mg X.base (L2.CX X.prog X.w) k f fd ps (spD X.K X.mg m np body)) (hr : Room k X.A) (hg : Gl X x) (hm : X.mg x = some (.ref f)) (hk : PySem.W.keepIn X.K (.ref f) = true) (hb : Binds X.K fd ps dvals) (hd : Vals dvs dvals) (hx : ∀ σ, PassesAt (L2.CX X.prog X.w) X σ (WE W σ))
    (hdd : ∀ M H, RepL X.K M H dvs dds) (ha : DA X c W (e :: es) ms) (hdb : (x == ("__debug__" : Str)) = false := by decide) (he : starEach (e :: es) X.env = (false, eval e X.env) :: starEach es X.env := by rfl) (hpl : (backTo pos (starEach es X.env)).any (·.1) = false := by rfl) :
    DF X c W (.Call (.Name x p) (e :: es) [] pos) (mCallF m np body dds ms) :=
  pe_imp (pe_callSD F hr hg hm hk hb hd hx ha hdb he hpl) fun σ H Q ⟨F0, δ, τ, S, h⟩ => callG_imp hdd F0 δ τ S h (fun d δ1 v H' F' q hl S' => q.elim) fun r δ1 a H' F' q hl S' => by
    have q : (if δ1.length = δ.length then Er.ok r δ1 else .stuck).post _ _ := q
    rw [if_pos hl] at q
    exact q a H' F' hl S'
theorem pe_call0S {E : L2.St → XK} {sp : Sp} (F : FnOk X.prog X.w X.K X.mg X.base (L2.CX X.prog X.w) k f fd ps sp) (hr : Room k X.A) (hg : Gl X x) (hm : X.mg x = some (.ref f)) (hk : PySem.W.keepIn X.K (.ref f) = true) (hb : Binds X.K fd ps dvals) (hd : Vals dvs dvals) (hx : ∀ σ, PassesAt (L2.CX X.prog X.w) X σ (E σ))
    (hdb : (x == ("__debug__" : Str)) = false := by decide) : PE X (.Call (.Name x p) [] [] pos) (tCallSD sp dvs E tNil) := by
  refine ⟨fun pins s σ H Q I h => ?_⟩
  refine wpAny_Call_Name_kw (ld_glob I hg hm ?_ hdb)
  exact PySem.W.callWith_K0 I.kIn hk (run_fnSD (us := []) (vs := []) F hr hb hd (hx σ) I .nil h)
theorem call0_sub {sp : Sp} {E : L2.St → XK} {σ : L2.St} {H : Hp} {Q : VK} (h : tCallSD sp dvs E (tDA X.K X.mg c W mNil) σ H Q) (hi : ∀ F δ τ, SRF X.K c F σ δ τ H → True) : True := trivial
theorem de_call0 (F : FnOk X.prog X.w X.K X.mg X.base (L2.CX X.prog X.w) k f fd ps (spD X.K X.mg m np body)) (hr : Room k X.A) (hg : Gl X x) (hm : X.mg x = some (.ref f)) (hk : PySem.W.keepIn X.K (.ref f) = true) (hb : Binds X.K fd ps dvals) (hd : Vals dvs dvals) (hx : ∀ σ, PassesAt (L2.CX X.prog X.w) X σ (WE W σ))
    (hdd : ∀ M H, RepL X.K M H dvs dds) (hdb : (x == ("__debug__" : Str)) = false := by decide) : DE X c W (.Call (.Name x p) [] [] pos) (mCall m np body dds mNil) :=
  pe_imp (pe_call0S F hr hg hm hk hb hd hx hdb) fun σ H Q ⟨F0, δ, τ, S, h⟩ => by
    obtain ⟨F1, δ1, τ1, S1, h1⟩ := callG_imp (Q := Q) (dvs := dvs) hdd F0 δ τ S h (fun d δ1 v H' F' q hl S' => q v H' F' S') fun r δ1 a H' F' q hl S' => by
      have hτ := S.nslot (n := δ1.length) (by omega)
      cases r with
      | lst ds => exact q _ _ _ (S'.freezeL hτ)
      | dic ds => exact q _ _ _ (S'.freezeK hτ)
      | abs A => exact q.elim
    exact h1 [] H F1 rfl S1
/-- what a body lets out, taken -/
theorem px_takes (tk : Takes X W) : ∀ σ, PassesAt (L2.CX X.prog X.w) X σ (WE W σ) := passAt tk
theorem px_none : ∀ σ, PassesAt (L2.CX X.prog X.w) X σ (WE W0 σ) := fun σ _ _ _ _ _ _ h => by
  obtain ⟨_, _, _, _, _, _, _, _, _, _, _, _, z⟩ := h
  exact z.elim
/-- raise X('..'), an own class without __init__ -/
theorem ds_raise {C : Addr} {x : Str} (he : PMk X e (fun _ H Q => Q (.ref C) none H)) (hc : X.calm = true) (tk : Takes X W) (gC : X.mg x = some (.ref C)) : DS X c W (.Raise (some e) none pos) (mRaise ⟨x, []⟩) :=
  ps_imp (ps_raise hc tk he) fun D σ H ⟨F, δ, τ, S, u, h⟩ => h (.ref C) none σ H F S ⟨⟨C, gC, rfl⟩, fun n => (n rfl).elim⟩

/-! ### try .. except X: suites that bind no name -/
def mTry (b : MS) (hs : Str → Option (Option MS)) : MS := fun δ => match b δ with
  | .exc x δ1 => (match hs x.cls with
    | some (some s) => (match s δ1 with
      | .exc _ _ => .stuck
      | o => o)
    | some none => .exc x δ1
    | none => .stuck)
  | o => o
/-- which clause takes which error: by the classes' facts -/
inductive Hands (X : Cx) : List ExceptHandler → List (Value × (Addr → Value → Option Addr → TS)) → (Str → Option (Option MS)) → (c : Ctx) → (W : WX) → Prop
  | nil {c : Ctx} {W : WX} : Hands X [] [] (fun _ => some none) c W
  | cons {c : Ctx} {W : WX} {x : Str} {cv : Value} {b0 : Stmt} {suite : List Stmt} {np pos' : Pos} {hds : List ExceptHandler} {l : List (Value × (Addr → Value → Option Addr → TS))} {hs : Str → Option (Option MS)} {s : MS} {sub : Str → Option Bool} (hc : Names X x cv)
      (hsub : ∀ y b, sub y = some b → ∀ C, X.mg y = some (.ref C) → PySem.W.exmOne X.K (.ref C) cv = some b)
      (hsu : ∀ (a : Addr) (oe : Obj) (cls : Value) (d : Option Addr) (pn : List (Addr × Obj)), DSs (X.suite a ((a, oe) :: pn)) c W0 (b0 :: suite) s) (r : Hands X hds l hs c W) :
      Hands X (.ExceptHandler (some (.Name x np)) none (b0 :: suite) pos' :: hds) ((cv, fun _ _ _ => tDS X.K X.mg c W0 s) :: l) (fun y => match sub y with
        | some true => some (some s)
        | some false => hs y
        | none => none) c W
theorem Hands.ok {hds : List ExceptHandler} {l : List (Value × (Addr → Value → Option Addr → TS))} {hs : Str → Option (Option MS)} (h : Hands X hds l hs c W) : HdsOk X hds l := by
  induction h with
  | nil => exact .nil
  | cons hc hsub hsu r ih => exact .cons hc (fun a oe cls d pn _ _ => hsu a oe cls d pn) ih
theorem noexc_post {o : Out} {kn : Dl → Prop} {kr : Ret → Dl → Prop} {kb kc : Dl → Prop} {kx kx' : Ex → Dl → Prop} (h : (match o with
      | .exc _ _ => .stuck
      | o => o : Out).post kn kr kb kc kx) : o.post kn kr kb kc kx' := by
  cases o <;> first | exact h | exact h.elim
theorem hands_post {hds : List ExceptHandler} {l : List (Value × (Addr → Value → Option Addr → TS))} {hs : Str → Option (Option MS)} (hh : Hands X hds l hs c W) {D : Ends} {τ : List (V × DL.D)} (u : ∀ p ∈ τ, unslot1 p.2 = true) {x : Ex} {δ1 : Dl} {cls : Value} {dx : Option Addr} {σ' : L2.St} {H' : Hp} {F' : Nat → Addr → Prop}
    (S : SRF X.K c F' σ' δ1 τ H') (ie : IsExc X.K X.mg (c.M F') H' x cls dx)
    (h : (match hs x.cls with
    | some (some s) => (match s δ1 with
      | .exc _ _ => .stuck
      | o => o)
    | some none => .exc x δ1
    | none => .stuck : Out).post (nxP X.K c τ D.nx) (retP X.K c τ D.rt) (nxP X.K c τ D.bk) (nxP X.K c τ D.ct) (exP X.K X.mg c W τ)) : wMany X.K W D l cls dx σ' H' := by
  induction hh with
  | nil => exact h cls dx σ' H' F' S ie
  | @cons c W y cv b0 suite np pos' hds l hs s sub hc hsub hsu r ih =>
    obtain ⟨C, gC, rfl⟩ := ie.1
    cases e : sub x.cls with
    | none => simp only [e] at h; exact h.elim
    | some b =>
      refine ⟨b, hsub _ _ e C gC, fun hb a ha => ?_, fun hb => ?_⟩
      · subst hb
        simp only [e] at h
        exact ⟨F', δ1, τ, S, u, noexc_post h⟩
      · subst hb
        simp only [e] at h
        exact ih S ie h
theorem ds_try {body : List Stmt} {b : MS} {h0 : ExceptHandler} {hds : List ExceptHandler} {l : List (Value × (Addr → Value → Option Addr → TS))} {hs : Str → Option (Option MS)} (hst : X.stack = X.env :: X.outer) (hf : X.env.frame = some X.env.locals) (tk : Takes X W)
    (hb : ∀ (W' : WX) (pn : List (Addr × Obj)) (xe : Value → Shared → Prop), Takes (X.tr pn xe) W' → PassesOwn (model X.prog X.w) X.A X.env xe → DSs (X.tr pn xe) c W' body b)
    (hh : Hands X (h0 :: hds) l hs c W) : DS X c W (.Try body (h0 :: hds) [] [] pos) (mTry b hs) :=
  ps_imp (ps_try_many (tb := fun W' => tDS X.K X.mg c W' b) hst hf tk (fun W' pn xe t p => hb W' pn xe t p) hh.ok) fun D σ H ⟨F, δ, τ, S, u, h⟩ => by
    refine ⟨F, δ, τ, S, u, ?_⟩
    unfold mTry at h
    cases e : b δ with
    | nx δ1 => rw [e] at h; exact h
    | ret r δ1 => rw [e] at h; exact h
    | brk δ1 => rw [e] at h; exact h
    | ct δ1 => rw [e] at h; exact h
    | stuck => rw [e] at h; exact h
    | exc x δ1 =>
      rw [e] at h
      exact fun cls dx σ' H' F' S' ie => hands_post hh u S' ie h
end
end DL
set_option Elab.async false
set_option linter.all false
set_option maxRecDepth 100000
set_option autoImplicit false
/-! DL8: operators, built-ins, methods. -/
namespace DL
open PySem PySem.Spec PyProof.Rows L2

theorem OpR.or {X : Cx} {f : Value → Value → Sem Value} {r r' : R2} (h : OpR X f r) (h' : OpR X f r') : OpR X f (fun x y H Q => r x y H Q ∨ r' x y H Q) := fun pins s σ H x y v u Q I rx ry q => by
  rcases q with q | q
  · exact h pins s σ H x y v u Q I rx ry q
  · exact h' pins s σ H x y v u Q I rx ry q
theorem CallR.or {X : Cx} {f : Value} {r r' : List V → Hp → VK → Prop} (h : CallR X f r) (h' : CallR X f r') : CallR X f (fun x H Q => r x H Q ∨ r' x H Q) := fun pins s σ H xs us Q I rx q => by
  rcases q with q | q
  · exact h pins s σ H xs us Q I rx q
  · exact h' pins s σ H xs us Q I rx q

/-! ### + -/
def addD : D → D → Option D
  | .int i, .int j => some (.int (i + j))
  | .str a, .str b => if a.length + b.length ≤ sizeLine then some (.str (a ++ b)) else none
  | .tup a, .tup b => if a.length + b.length ≤ sizeLine then some (.tup (a ++ b)) else none
  | .lst a, .lst b => if a.length + b.length ≤ sizeLine then some (.lst (a ++ b)) else none
  | _, _ => none
def subD : D → D → Option D
  | .int i, .int j => some (.int (i - j))
  | _, _ => none
def mulD : D → D → Option D
  | .int i, .int j => if i.natAbs.log2 + j.natAbs.log2 < 1000000 then some (.int (i * j)) else none
  | .str a, .int k => if -(2 ^ 63) ≤ k ∧ k < 2 ^ 62 ∧ a.length * k.toNat ≤ sizeLine then some (.str (Txt.mul a k)) else none
  | .lst a, .int k => if -(2 ^ 63) ≤ k ∧ k < 2 ^ 63 ∧ a.length * k.toNat ≤ sizeLine then some (.lst (List.replicate k.toNat a).flatten) else none
  | .tup a, .int k => if a.isEmpty = false ∧ 2 ≤ k ∧ k ≤ 1000 ∧ a.length ≤ 1000 then some (.tup (List.replicate k.toNat a).flatten) else none
  | _, _ => none
def fdivD : D → D → Option D
  | .int i, .int j => if 0 < j ∧ j.natAbs.log2 < 9000 then some (.int (i / j)) else none
  | _, _ => none
def modD : D → D → Option D
  | .int i, .int j => if 0 < j then some (.int (i % j)) else none
  | _, _ => none
def powD : D → D → Option D
  | .int i, .int j => if 0 ≤ j ∧ j ≤ 1000000 ∧ i.natAbs < 2 ^ 64 then some (.int (i ^ j.toNat)) else none
  | _, _ => none

/-! data that may be compared deeply -/
mutual
def toPy : D → Option PyData
  | .non => some .none
  | .bl b => some (.bool b)
  | .int i => some (.int i)
  | .str x => some (.str x)
  | .tup ds => (toPys ds).map .tuple
  | .lst ds => (toPys ds).map .list
  | .ro ds => (toPys ds).map .list
  | _ => none
def toPys : List D → Option (List PyData)
  | [] => some []
  | d :: ds => (toPy d).bind fun x => (toPys ds).map fun r => x :: r
end
def scalD : D → Option V
  | .non => some .non
  | .bl b => some (.bl b)
  | .int i => some (.int i)
  | .str x => some (.str x)
  | _ => none
def deepD (a b : D) : Option Bool := (toPy a).bind fun x => (toPy b).bind fun y => if SeqAt.shaped x = true ∧ SeqAt.shaped y = true then some (PyData.eqv x y) else none
def eqB (a b : D) : Option Bool := match scalD a, scalD b with
  | some v, some w => if scal v w = true then some (decide (v = w)) else deepD a b
  | _, _ => deepD a b
def eqD (a b : D) : Option D := (eqB a b).map .bl
def neD (a b : D) : Option D := (eqB a b).map fun k => .bl (!k)
def sLt (a b : Str) : Bool := decide (a.cps.toList < b.cps.toList)
def ltD : D → D → Option D
  | .int i, .int j => some (.bl (decide (i < j)))
  | .str a, .str b => some (.bl (sLt a b))
  | _, _ => none
def leD : D → D → Option D
  | .int i, .int j => some (.bl (decide (i ≤ j)))
  | .str a, .str b => some (.bl (!sLt b a))
  | _, _ => none
def gtD : D → D → Option D
  | .int i, .int j => some (.bl (decide (j < i)))
  | .str a, .str b => some (.bl (sLt b a))
  | _, _ => none
def geD : D → D → Option D
  | .int i, .int j => some (.bl (decide (j ≤ i)))
  | .str a, .str b => some (.bl (!sLt a b))
  | _, _ => none
def isNoneD : D → Option Bool
  | .slot _ => none
  | .raw _ => none
  | .non => some true
  | _ => some false
/-- x is None -/
def isD : D → D → Option D
  | .slot _, _ => none
  | .raw _, _ => none
  | .non, .non => some (.bl true)
  | _, .non => some (.bl false)
  | .bl a, .bl b => some (.bl (decide (a = b)))
  | _, _ => none
def isnD : D → D → Option D
  | .slot _, _ => none
  | .raw _, _ => none
  | .non, .non => some (.bl false)
  | _, .non => some (.bl true)
  | .bl a, .bl b => some (.bl (!decide (a = b)))
  | _, _ => none
def inS (a b : Str) : Bool := !(Builtin.Str.occurrences b a 0 b.length 1).isEmpty
def inL (a : D) (bs : List D) : Option Bool := (toPy a).bind fun x => (toPys bs).bind fun ys => if SeqAt.shaped x = true ∧ SeqAt.shaped (.list ys) = true then some (ys.any fun z => PyData.eqv z x) else none
def inB : D → D → Option Bool
  | .str a, .str b => some (inS a b)
  | a, .lst bs => inL a bs
  | a, .ro bs => inL a bs
  | _, _ => none
def inD (a b : D) : Option D := (inB a b).map .bl
def ninD (a b : D) : Option D := (inB a b).map fun k => .bl (!k)
def negD : D → Option D
  | .int i => some (.int (-i))
  | _ => none
def ixD : D → D → Option D
  | .lst ds, .int i => atI ds i
  | .ro ds, .int i => atI ds i
  | .tup ds, .int i => atI ds i
  | .str z, .int i => if z.length ≤ sizeLine then (atI z.cps.toList i).map fun k => .str ⟨#[k]⟩ else none
  | _, _ => none
def cutD (ds : List D) (lo hi : Option Int) : List D := (ds.drop (HT.sIx ds.length 0 lo)).take (HT.sIx ds.length ds.length hi - HT.sIx ds.length 0 lo)
def slD : D → Option Int → Option Int → Option D
  | .lst ds, lo, hi => some (.lst (cutD ds lo hi))
  | .ro ds, lo, hi => some (.lst (cutD ds lo hi))
  | .tup ds, lo, hi => some (.tup (cutD ds lo hi))
  | .str z, lo, hi => if z.length ≤ sizeLine then some (.str (cutS z lo hi)) else none
  | _, _, _ => none
section
variable {K : PySem.W.Frag} {M : Addr → Prop} {H : Hp}
mutual
theorem dp_of : ∀ {d : D} {v : V} {x : PyData}, Rep K M H v d → toPy d = some x → Dp K H v x
  | .non, _, _, h, e => by cases h; cases e; exact .non
  | .bl b, _, _, h, e => by cases h; cases e; exact .bl _
  | .int i, _, _, h, e => by cases h; cases e; exact .int _
  | .str y, _, _, h, e => by cases h; cases e; exact .str _
  | .tup ds, _, x, h, e => by
    cases h with
    | tup h l =>
      have e : (toPys ds).map PyData.tuple = some x := by simpa [toPy] using e
      cases q : toPys ds with
      | none => rw [q] at e; cases e
      | some xs => rw [q] at e; cases e; exact .tup h.sq (dps_of l q)
  | .lst ds, _, x, h, e => by
    cases h with
    | lst h l =>
      have e : (toPys ds).map PyData.list = some x := by simpa [toPy] using e
      cases q : toPys ds with
      | none => rw [q] at e; cases e
      | some xs => rw [q] at e; cases e; exact .lst h.sq (dps_of l q)
  | .ro ds, _, x, h, e => by
    cases h with
    | ro h l =>
      have e : (toPys ds).map PyData.list = some x := by simpa [toPy] using e
      cases q : toPys ds with
      | none => rw [q] at e; cases e
      | some xs => rw [q] at e; cases e; exact .lst h.sq (dps_of l q)
  | .dic _, _, _, _, e => by simp [toPy] at e
  | .raw _, _, _, _, e => by simp [toPy] at e
  | .slot _, _, _, _, e => by simp [toPy] at e
theorem dps_of : ∀ {ds : List D} {vs : List V} {xs : List PyData}, RepL K M H vs ds → toPys ds = some xs → DpAll K H vs xs
  | [], _, _, h, e => by cases h; simp [toPys] at e; subst e; exact .nil
  | d :: ds, _, xx, h, e => by
    cases h with
    | cons h l =>
      have e : (toPy d).bind (fun x => (toPys ds).map fun r => x :: r) = some xx := by simpa [toPys] using e
      cases q1 : toPy d with
      | none => rw [q1] at e; cases e
      | some x =>
        rw [q1] at e
        cases q2 : toPys ds with
        | none => rw [q2] at e; cases e
        | some r => rw [q2] at e; cases e; exact .cons (dp_of h q1) (dps_of l q2)
end
theorem dpR_of {d : D} {v : V} {x : PyData} (h : RepR K M H v d) (e : toPy d = some x) : Dp K H v x := by
  cases h with
  | of h => exact dp_of h e
  | @lst a vs ds h l =>
    have e : (toPys ds).map PyData.list = some x := by simpa [toPy] using e
    cases q : toPys ds with
    | none => rw [q] at e; cases e
    | some xs => rw [q] at e; cases e; exact .lst (SqL.of h) (dps_of l q)
  | dic h l => simp [toPy] at e
theorem scal_of {d : D} {v w : V} (h : RepR K M H v d) (e : scalD d = some w) : v = w := by
  cases d <;> first | (cases e; done) | skip
  · rw [h.nonE]; cases e; rfl
  · rw [h.blE]; cases e; rfl
  · rw [h.intE]; cases e; rfl
  · rw [h.strE]; cases e; rfl
theorem getL {ds : List D} {vs : List V} {i : Int} {d : D} (l : RepL K M H vs ds) (e : atI ds i = some d) : ∃ v, atI vs i = some v ∧ Rep K M H v d := by
  unfold atI at e ⊢
  rw [l.length]
  cases q : ixN ds.length i with
  | none => rw [q] at e; cases e
  | some j =>
    rw [q] at e
    obtain ⟨v, h1, h2⟩ := l.get (i := j) e
    exact ⟨v, h1, h2⟩
theorem cut_rep {ds : List D} {vs : List V} {lo hi : Option Int} (l : RepL K M H vs ds) : RepL K M H (cutV vs lo hi) (cutD ds lo hi) := by
  unfold cutV cutD
  rw [l.length]
  exact (l.drop _).take _
end

section
variable {X : Cx} {c : Ctx} {W : WX} {a b : Expr} {ma mb : ME} {pos : Pos}
def rAddAll (K : PySem.W.Frag) : R2 := fun x y H Q => rI0 (fun i j => .int (i + j)) x y H Q ∨ (∃ i j, x = .str i ∧ y = .str j ∧ i.length + j.length ≤ sizeLine ∧ Q (.str (i ++ j)) H) ∨ rCatA K x y H Q ∨ rCat x y H Q
theorem op_addAll : OpR X (binaryOp .Add) (rAddAll X.K) := OpR.or op_add (OpR.or op_add_str (OpR.or op_catA op_cat))
theorem o_add : Op2 X c (rAddAll X.K) addD := fun F σ δ τ H v a w b d Q S ra rb e k => by
  cases a <;> cases b <;> first | (cases e; done) | skip
  · rw [ra.intE, rb.intE]; cases e; exact .inl ⟨_, _, rfl, rfl, k _ H S (.int _)⟩
  · rw [ra.strE, rb.strE]
    unfold addD at e
    simp only at e
    split at e
    · rename_i hz; cases e; exact .inr (.inl ⟨_, _, rfl, rfl, hz, k _ H S (.str _)⟩)
    · cases e
  · rename_i as bs
    unfold addD at e
    simp only at e
    split at e
    · rename_i hz
      cases e
      obtain ⟨p, vs, rfl, hs, l⟩ := ra.tupE
      obtain ⟨q, ws, rfl, hs', l'⟩ := rb.tupE
      refine .inr (.inr (.inl ⟨p, q, vs, ws, rfl, rfl, hs, hs', by rw [l.length, l'.length]; exact hz, fun e => ?_, fun _ e => ?_, fun _ _ r hr => ?_⟩))
      · subst e
        cases l
        cases rb with
        | of rb => exact k _ H S rb
      · subst e
        cases l'
        rw [List.append_nil] at k
        cases ra with
        | of ra => exact k _ H S ra
      · exact k _ _ (S.alloc hr) (.tup (.inl ⟨.inl upd_same, S.fresh hr⟩) ((l.append l').mv (mv_alloc hr)))
    · cases e
  · rename_i as bs
    unfold addD at e
    simp only at e
    split at e
    · rename_i hz
      cases e
      obtain ⟨p, vs, rfl, hs, l⟩ := ra.lstE
      obtain ⟨q, ws, rfl, hs', l'⟩ := rb.lstE
      exact .inr (.inr (.inr ⟨p, q, vs, ws, rfl, rfl, hs, hs', by rw [l.length, l'.length]; exact hz, fun r hr => k _ _ (S.alloc hr) (.lst ⟨upd_same, S.fresh hr⟩ ((l.append l').mv (mv_alloc hr)))⟩))
    · cases e
theorem n_add : Ns2 addD := ⟨fun _ b => by cases b <;> rfl, fun _ a => by cases a <;> rfl⟩
theorem de_add (ha : DE X c W a ma) (hb : DE X c W b mb) : DE X c W (.BinOp a .Add b pos) (m2 addD ma mb) := pe_imp (pe_op op_addAll ha hb) (m2_imp o_add n_add)
theorem o_sub : Op2 X c (rI0 fun i j => .int (i - j)) subD := fun F σ δ τ H v a w b d Q S ra rb e k => by
  cases a <;> cases b <;> first | (cases e; done) | skip
  rw [ra.intE, rb.intE]; cases e; exact ⟨_, _, rfl, rfl, k _ H S (.int _)⟩
theorem n_sub : Ns2 subD := ⟨fun _ b => by cases b <;> rfl, fun _ a => by cases a <;> rfl⟩
theorem de_sub (ha : DE X c W a ma) (hb : DE X c W b mb) : DE X c W (.BinOp a .Sub b pos) (m2 subD ma mb) := pe_imp (pe_op op_sub ha hb) (m2_imp o_sub n_sub)
/-- a text times an int -/
def rMulS : R2 := fun x y H Q => ∃ z k, x = .str z ∧ y = .int k ∧ -(2 ^ 63) ≤ k ∧ k < 2 ^ 62 ∧ z.length * k.toNat ≤ sizeLine ∧ Q (.str (Txt.mul z k)) H
theorem op_mulS : OpR X (binaryOp .Mult) rMulS := by
  intro pins s σ H x y v u Q I rx ry h
  obtain ⟨z, k, rfl, rfl, h1, h2, hz, q⟩ := h
  obtain ⟨t, rfl⟩ := rx
  obtain ⟨t', rfl⟩ := ry
  have hs : sizeLine = 16777216 := sizeLine_eq
  refine SB.mul ⟨?_, fun h3 h4 h5 => ?_, fun h3 h4 => ?_⟩ fun t' k => ⟨.str _, H, I.tok _, ⟨_, rfl⟩, q⟩
  · rw [Bool.or_eq_false_iff]
    exact ⟨decide_eq_false (by omega), decide_eq_false (by omega)⟩
  · have hk : 0 < k := by omega
    have e1 : (z.length : Int) ≤ (sizeLine : Nat) := by
      have : z.length * 1 ≤ z.length * k.toNat := Nat.mul_le_mul_left _ (by omega)
      omega
    have e2 : (z.length : Int) * k ≤ sizeLine := by
      have : ((z.length * k.toNat : Nat) : Int) = (z.length : Int) * k := by
        rw [Int.natCast_mul, Int.toNat_of_nonneg (by omega)]
      omega
    have : (z.length : Int) ≤ (2 ^ 63 - 1) / k := by
      apply Int.le_ediv_of_mul_le hk
      omega
    omega
  · exact decide_eq_false (by omega)
def rMulAll (K : PySem.W.Frag) : R2 := fun x y H Q => rI CMulW (fun i j => .int (i * j)) x y H Q ∨ rMulS x y H Q ∨ rRep x y H Q
theorem op_mulAll : OpR X (binaryOp .Mult) (rMulAll X.K) := OpR.or op_mulW (OpR.or op_mulS op_rep)
end
end DL
set_option Elab.async false
set_option linter.all false
set_option maxRecDepth 100000
set_option autoImplicit false
/-! DL9: more operators, built-ins, methods. -/
namespace DL
open PySem PySem.Spec PyProof.Rows L2
section
variable {K : PySem.W.Frag} {M : Addr → Prop} {H : Hp}
theorem repL_rep {ds : List D} {vs : List V} (l : RepL K M H vs ds) : ∀ k : Nat, RepL K M H (List.replicate k vs).flatten (List.replicate k ds).flatten
  | 0 => .nil
  | k + 1 => by
    rw [List.replicate_succ, List.replicate_succ, List.flatten_cons, List.flatten_cons]
    exact l.append (repL_rep l k)
theorem isEmpty_rep {ds : List D} {vs : List V} (l : RepL K M H vs ds) (h : ds.isEmpty = false) : vs ≠ [] := by
  intro e
  subst e
  cases l
  cases h
end
section
variable {X : Cx} {c : Ctx} {W : WX} {a b e : Expr} {ma mb : ME} {pos : Pos}
def rMulT (K : PySem.W.Frag) : R2 := fun x y H Q => rMulAll K x y H Q ∨ rRepT K x y H Q
theorem op_mulT : OpR X (binaryOp .Mult) (rMulT X.K) := OpR.or op_mulAll op_repT
theorem o_mul : Op2 X c (rMulT X.K) mulD := fun F σ δ τ H v a w b d Q S ra rb e k => by
  cases a <;> cases b <;> first | (cases e; done) | skip
  · rw [ra.intE, rb.intE]
    unfold mulD at e
    simp only at e
    split at e
    · rename_i hz; cases e; exact .inl (.inl ⟨_, _, rfl, rfl, hz, k _ H S (.int _)⟩)
    · cases e
  · rw [ra.strE, rb.intE]
    unfold mulD at e
    simp only at e
    split at e
    · rename_i hz; cases e; exact .inl (.inr (.inl ⟨_, _, rfl, rfl, hz.1, hz.2.1, hz.2.2, k _ H S (.str _)⟩))
    · cases e
  · unfold mulD at e
    simp only at e
    split at e
    · rename_i hz
      cases e
      obtain ⟨p, vs, rfl, hs, l⟩ := ra.tupE
      rw [rb.intE]
      exact .inr ⟨p, _, vs, rfl, rfl, hs, isEmpty_rep l hz.1, hz.2.1, hz.2.2.1, by rw [l.length]; exact hz.2.2.2, fun q hq => k _ _ (S.alloc hq) (.tup (.inl ⟨.inl upd_same, S.fresh hq⟩) ((repL_rep l _).mv (mv_alloc hq)))⟩
    · cases e
  · unfold mulD at e
    simp only at e
    split at e
    · rename_i hz
      cases e
      obtain ⟨p, vs, rfl, hs, l⟩ := ra.lstE
      rw [rb.intE]
      exact .inl (.inr (.inr ⟨p, _, vs, rfl, rfl, hs, hz.1, hz.2.1, by rw [l.length]; exact hz.2.2, fun q hq => k _ _ (S.alloc hq) (.lst ⟨upd_same, S.fresh hq⟩ ((repL_rep l _).mv (mv_alloc hq)))⟩))
    · cases e
theorem n_mul : Ns2 mulD := ⟨fun _ b => by cases b <;> rfl, fun _ a => by cases a <;> rfl⟩
theorem de_mul (ha : DE X c W a ma) (hb : DE X c W b mb) : DE X c W (.BinOp a .Mult b pos) (m2 mulD ma mb) := pe_imp (pe_op op_mulT ha hb) (m2_imp o_mul n_mul)
theorem o_ii {C : Int → Int → Prop} {g : Int → Int → V} {f : D → D → Option D} (h : ∀ a b d, f a b = some d → ∃ i j, a = .int i ∧ b = .int j ∧ C i j ∧ ∀ K M H, Rep K M H (g i j) d) : Op2 X c (rI C g) f := fun F σ δ τ H v a w b d Q S ra rb e k => by
  obtain ⟨i, j, rfl, rfl, hc, r⟩ := h _ _ _ e
  rw [ra.intE, rb.intE]
  exact ⟨_, _, rfl, rfl, hc, k _ H S (r _ _ _)⟩
theorem de_fdiv (ha : DE X c W a ma) (hb : DE X c W b mb) : DE X c W (.BinOp a .FloorDiv b pos) (m2 fdivD ma mb) :=
  pe_imp (pe_op op_fdivW ha hb) (m2_imp (o_ii fun a b d e => by
    cases a <;> cases b <;> first | (cases e; done) | skip
    unfold fdivD at e
    simp only at e
    split at e
    · rename_i hz; cases e; exact ⟨_, _, rfl, rfl, hz, fun _ _ _ => .int _⟩
    · cases e) ⟨fun _ b => by cases b <;> rfl, fun _ a => by cases a <;> rfl⟩)
theorem de_mod (ha : DE X c W a ma) (hb : DE X c W b mb) : DE X c W (.BinOp a .Mod b pos) (m2 modD ma mb) :=
  pe_imp (pe_op op_mod ha hb) (m2_imp (o_ii fun a b d e => by
    cases a <;> cases b <;> first | (cases e; done) | skip
    unfold modD at e
    simp only at e
    split at e
    · rename_i hz; cases e; exact ⟨_, _, rfl, rfl, hz, fun _ _ _ => .int _⟩
    · cases e) ⟨fun _ b => by cases b <;> rfl, fun _ a => by cases a <;> rfl⟩)
theorem de_pow (ha : DE X c W a ma) (hb : DE X c W b mb) : DE X c W (.BinOp a .Pow b pos) (m2 powD ma mb) :=
  pe_imp (pe_op op_pow ha hb) (m2_imp (o_ii fun a b d e => by
    cases a <;> cases b <;> first | (cases e; done) | skip
    unfold powD at e
    simp only at e
    split at e
    · rename_i hz; cases e; exact ⟨_, _, rfl, rfl, hz, fun _ _ _ => .int _⟩
    · cases e) ⟨fun _ b => by cases b <;> rfl, fun _ a => by cases a <;> rfl⟩)
theorem de_neg (ha : DE X c W a ma) : DE X c W (.UnaryOp .USub a pos) (m1 negD ma) :=
  pe_imp (pe_un un_neg ha) (m1_imp (fun F σ δ τ H v a d Q S ra e k => by
    cases a <;> first | (cases e; done) | skip
    rw [ra.intE]; cases e; exact ⟨_, rfl, k _ H S (.int _)⟩) fun _ => rfl)

/-! ### comparisons -/
def rEqAll (K : PySem.W.Frag) : R2 := fun x y H Q => rEq x y H Q ∨ rEqD K x y H Q
def rNeAll (K : PySem.W.Frag) : R2 := fun x y H Q => rNe x y H Q ∨ rNeD K x y H Q
theorem eq_cases {M : Addr → Prop} {K : PySem.W.Frag} {H : Hp} {v w : V} {a b : D} {k : Bool} (ra : RepR K M H v a) (rb : RepR K M H w b) (e : eqB a b = some k) :
    (scal v w = true ∧ k = decide (v = w)) ∨ ∃ d e, Dp K H v d ∧ Dp K H w e ∧ SeqAt.shaped d = true ∧ SeqAt.shaped e = true ∧ k = PyData.eqv d e := by
  have deep : deepD a b = some k → ∃ d e, Dp K H v d ∧ Dp K H w e ∧ SeqAt.shaped d = true ∧ SeqAt.shaped e = true ∧ k = PyData.eqv d e := fun q => by
    unfold deepD at q
    cases h1 : toPy a with
    | none => rw [h1] at q; cases q
    | some x =>
      rw [h1] at q
      cases h2 : toPy b with
      | none => rw [h2] at q; cases q
      | some y =>
        rw [h2] at q
        simp only [Option.bind_some] at q
        split at q
        · rename_i hs
          exact ⟨x, y, dpR_of ra h1, dpR_of rb h2, hs.1, hs.2, (Option.some.inj q).symm⟩
        · cases q
  unfold eqB at e
  split at e
  · rename_i x y h1 h2
    rw [scal_of ra h1, scal_of rb h2]
    split at e
    · rename_i hs
      exact .inl ⟨hs, (Option.some.inj e).symm⟩
    · right
      have := deep e
      rw [scal_of ra h1, scal_of rb h2] at this
      exact this
  · exact .inr (deep e)
theorem eqB_ns1 {i : Nat} {b : D} : eqB (.slot i) b = none := by
  unfold eqB deepD
  simp [scalD, toPy]
theorem eqB_ns2 {i : Nat} {a : D} : eqB a (.slot i) = none := by
  unfold eqB deepD
  have : toPy (.slot i) = none := by simp [toPy]
  cases a <;> simp [scalD, this]
theorem de_eq (hu : X.A.units + 64 < cLine) (ha : DE X c W a ma) (hb : DE X c W b mb) : DE X c W (.Compare a [.Eq] [b] pos) (m2 eqD ma mb) :=
  pe_imp (pe_cmpR (OpR.or op_eq (op_eqD hu)) ha hb (nomark _)) (m2_imp (fun F σ δ τ H v a w b d Q S ra rb e k => by
    unfold eqD at e
    cases q : eqB a b with
    | none => rw [q] at e; cases e
    | some t =>
      rw [q] at e
      cases e
      rcases eq_cases ra rb q with ⟨h1, h2⟩ | ⟨d, e, h1, h2, h3, h4, h5⟩
      · exact .inl ⟨h1, by rw [← h2]; exact k _ H S (.bl _)⟩
      · exact .inr ⟨d, e, h1, h2, h3, h4, by rw [← h5]; exact k _ H S (.bl _)⟩) ⟨fun i b => by unfold eqD; rw [eqB_ns1]; rfl, fun i a => by unfold eqD; rw [eqB_ns2]; rfl⟩)
theorem de_ne (hu : X.A.units + 64 < cLine) (ha : DE X c W a ma) (hb : DE X c W b mb) : DE X c W (.Compare a [.NotEq] [b] pos) (m2 neD ma mb) :=
  pe_imp (pe_cmpR (OpR.or op_ne (op_neD hu)) ha hb (nomark _)) (m2_imp (fun F σ δ τ H v a w b d Q S ra rb e k => by
    unfold neD at e
    cases q : eqB a b with
    | none => rw [q] at e; cases e
    | some t =>
      rw [q] at e
      cases e
      rcases eq_cases ra rb q with ⟨h1, h2⟩ | ⟨d, e, h1, h2, h3, h4, h5⟩
      · exact .inl ⟨h1, by rw [← h2]; exact k _ H S (.bl _)⟩
      · exact .inr ⟨d, e, h1, h2, h3, h4, by rw [← h5]; exact k _ H S (.bl _)⟩) ⟨fun i b => by unfold neD; rw [eqB_ns1]; rfl, fun i a => by unfold neD; rw [eqB_ns2]; rfl⟩)
def rOrd (p : Int → Int → Bool) (q : Str → Str → Bool) : R2 := fun x y H Q => rI0 (fun i j => .bl (p i j)) x y H Q ∨ ∃ i j, x = .str i ∧ y = .str j ∧ Q (.bl (q i j)) H
theorem o_ord {p : Int → Int → Bool} {q : Str → Str → Bool} {f : D → D → Option D} (h1 : ∀ i j, f (.int i) (.int j) = some (.bl (p i j))) (h2 : ∀ i j, f (.str i) (.str j) = some (.bl (q i j)))
    (h3 : ∀ a b d, f a b = some d → (∃ i j, a = .int i ∧ b = .int j) ∨ ∃ i j, a = .str i ∧ b = .str j) : Op2 X c (rOrd p q) f := fun F σ δ τ H v a w b d Q S ra rb e k => by
  rcases h3 _ _ _ e with ⟨i, j, rfl, rfl⟩ | ⟨i, j, rfl, rfl⟩
  · rw [h1] at e
    cases e
    rw [ra.intE, rb.intE]
    exact .inl ⟨_, _, rfl, rfl, k _ H S (.bl _)⟩
  · rw [h2] at e
    cases e
    rw [ra.strE, rb.strE]
    exact .inr ⟨_, _, rfl, rfl, k _ H S (.bl _)⟩
theorem op_ltA : OpR X (compareOp .Lt) (rOrd (fun i j => decide (i < j)) sLt) := OpR.or op_lt op_lt_str
theorem op_leA : OpR X (compareOp .LtE) (rOrd (fun i j => decide (i ≤ j)) fun a b => !sLt b a) := OpR.or op_le op_le_str
theorem op_gtA : OpR X (compareOp .Gt) (rOrd (fun i j => decide (j < i)) fun a b => sLt b a) := OpR.or op_gt op_gt_str
theorem op_geA : OpR X (compareOp .GtE) (rOrd (fun i j => decide (j ≤ i)) fun a b => !sLt a b) := OpR.or op_ge op_ge_str
theorem o_lt : Op2 X c (rOrd (fun i j => decide (i < j)) sLt) ltD := o_ord (fun _ _ => rfl) (fun _ _ => rfl) fun a b d e => by
  cases a <;> cases b <;> first | (cases e; done) | exact .inl ⟨_, _, rfl, rfl⟩ | exact .inr ⟨_, _, rfl, rfl⟩
theorem o_le : Op2 X c (rOrd (fun i j => decide (i ≤ j)) fun a b => !sLt b a) leD := o_ord (fun _ _ => rfl) (fun _ _ => rfl) fun a b d e => by
  cases a <;> cases b <;> first | (cases e; done) | exact .inl ⟨_, _, rfl, rfl⟩ | exact .inr ⟨_, _, rfl, rfl⟩
theorem o_gt : Op2 X c (rOrd (fun i j => decide (j < i)) fun a b => sLt b a) gtD := o_ord (fun _ _ => rfl) (fun _ _ => rfl) fun a b d e => by
  cases a <;> cases b <;> first | (cases e; done) | exact .inl ⟨_, _, rfl, rfl⟩ | exact .inr ⟨_, _, rfl, rfl⟩
theorem o_ge : Op2 X c (rOrd (fun i j => decide (j ≤ i)) fun a b => !sLt a b) geD := o_ord (fun _ _ => rfl) (fun _ _ => rfl) fun a b d e => by
  cases a <;> cases b <;> first | (cases e; done) | exact .inl ⟨_, _, rfl, rfl⟩ | exact .inr ⟨_, _, rfl, rfl⟩
theorem n_lt : Ns2 ltD := ⟨fun _ b => by cases b <;> rfl, fun _ a => by cases a <;> rfl⟩
theorem n_le : Ns2 leD := ⟨fun _ b => by cases b <;> rfl, fun _ a => by cases a <;> rfl⟩
theorem n_gt : Ns2 gtD := ⟨fun _ b => by cases b <;> rfl, fun _ a => by cases a <;> rfl⟩
theorem n_ge : Ns2 geD := ⟨fun _ b => by cases b <;> rfl, fun _ a => by cases a <;> rfl⟩
theorem de_lt (ha : DE X c W a ma) (hb : DE X c W b mb) : DE X c W (.Compare a [.Lt] [b] pos) (m2 ltD ma mb) := pe_imp (pe_cmpR op_ltA ha hb (nomark _)) (m2_imp o_lt n_lt)
theorem de_le (ha : DE X c W a ma) (hb : DE X c W b mb) : DE X c W (.Compare a [.LtE] [b] pos) (m2 leD ma mb) := pe_imp (pe_cmpR op_leA ha hb (nomark _)) (m2_imp o_le n_le)
theorem de_gt (ha : DE X c W a ma) (hb : DE X c W b mb) : DE X c W (.Compare a [.Gt] [b] pos) (m2 gtD ma mb) := pe_imp (pe_cmpR op_gtA ha hb (nomark _)) (m2_imp o_gt n_gt)
theorem de_ge (ha : DE X c W a ma) (hb : DE X c W b mb) : DE X c W (.Compare a [.GtE] [b] pos) (m2 geD ma mb) := pe_imp (pe_cmpR op_geA ha hb (nomark _)) (m2_imp o_ge n_ge)
/-! chains: a op b op' c -/
def mChain (f f' : D → D → Option D) (ma mb mc : ME) : ME := fun δ => (ma δ).bind fun a δ1 => (mb δ1).bind fun b δ2 => match f (deref δ2 a) (deref δ2 b) with
  | some (.bl true) => (mc δ2).bind fun d δ3 => optE (f' (deref δ3 b) (deref δ3 d)) δ3
  | some (.bl false) => .ok (.bl false) δ2
  | _ => .stuck
theorem chain_imp {r r' : R2} {f f' : D → D → Option D} {mc : ME} (o : Op2 X c r f) (o' : Op2 X c r' f') (ns : Ns2 f) (ns' : Ns2 f') : ∀ σ H Q, tD X.K X.mg c W (mChain f f' ma mb mc) σ H Q → tChain r r' (tD X.K X.mg c W ma) (tD X.K X.mg c W mb) (tD X.K X.mg c W mc) σ H Q := fun σ H Q ⟨F, δ, τ, S, h⟩ => by
  unfold mChain at h
  rw [Er.post_bind] at h
  refine ⟨F, δ, τ, S, Er.post_mono h (fun d δ1 h v H1 F1 S1 => ?_) fun x δ' q => q⟩
  rw [Er.post_bind] at h
  refine ⟨F1, δ1, (v, d) :: τ, S1, Er.post_mono h (fun d2 δ2 h w H2 F2 S2 => ?_) fun x δ' q => q.drop⟩
  cases e : f (deref δ2 d) (deref δ2 d2) with
  | none => simp only [e] at h; exact h.elim
  | some u =>
    have R2 := opd_of (f := f (deref δ2 d)) S2 S2.top (fun i => ns.2 i _) e
    have R1 := opd_of (f := fun z => f z (deref δ2 d2)) S2 S2.drop.top (fun i => ns.1 i _) e
    cases u with
    | bl k =>
      refine o F2 σ δ2 ((w, d2) :: τ) H2 v _ w _ (.bl k) _ (S2.sub fun p hp => ?_) R1 R2 e fun u H' S' r' => ?_
      · rcases List.mem_cons.mp hp with hp | hp
        · exact hp ▸ List.mem_cons_self
        · exact List.mem_cons_of_mem _ (List.mem_cons_of_mem _ hp)
      · cases r'
        refine ⟨k, rfl, ?_⟩
        cases k with
        | false =>
          simp only [e] at h
          exact iteF (h _ H' F2 (S'.drop.push (.inr (.bl _))))
        | true =>
          simp only [e] at h
          rw [Er.post_bind] at h
          refine iteT ⟨F2, δ2, (w, d2) :: τ, S', Er.post_mono h (fun d3 δ3 h y H3 F3 S3 => ?_) fun x δ' q => q.drop⟩
          cases e3 : f' (deref δ3 d2) (deref δ3 d3) with
          | none => rw [e3] at h; exact h.elim
          | some u3 =>
            rw [e3] at h
            have Q2 := opd_of (f := f' (deref δ3 d2)) S3 S3.top (fun i => ns'.2 i _) e3
            have Q1 := opd_of (f := fun z => f' z (deref δ3 d3)) S3 S3.drop.top (fun i => ns'.1 i _) e3
            exact o' F3 σ δ3 τ H3 w _ y _ u3 Q S3.drop.drop Q1 Q2 e3 fun z H4 S4 r4 => h z H4 F3 (S4.push (.inr r4))
    | _ => simp only [e] at h; exact h.elim
theorem de_lele {d : Expr} {md : ME} (ha : DE X c W a ma) (hb : DE X c W b mb) (hd : DE X c W d md) (hm : lastMarks [.LtE, .LtE] [b, d] = false := by with_unfolding_all rfl) : DE X c W (.Compare a [.LtE, .LtE] [b, d] pos) (mChain leD leD ma mb md) := pe_imp (pe_chain op_leA op_leA ha hb hd hm) (chain_imp o_le o_le n_le n_le)
theorem de_lelt {d : Expr} {md : ME} (ha : DE X c W a ma) (hb : DE X c W b mb) (hd : DE X c W d md) (hm : lastMarks [.LtE, .Lt] [b, d] = false := by with_unfolding_all rfl) : DE X c W (.Compare a [.LtE, .Lt] [b, d] pos) (mChain leD ltD ma mb md) := pe_imp (pe_chain op_leA op_ltA ha hb hd hm) (chain_imp o_le o_lt n_le n_lt)
theorem de_ltle {d : Expr} {md : ME} (ha : DE X c W a ma) (hb : DE X c W b mb) (hd : DE X c W d md) (hm : lastMarks [.Lt, .LtE] [b, d] = false := by with_unfolding_all rfl) : DE X c W (.Compare a [.Lt, .LtE] [b, d] pos) (mChain ltD leD ma mb md) := pe_imp (pe_chain op_ltA op_leA ha hb hd hm) (chain_imp o_lt o_le n_lt n_le)
theorem de_ltlt {d : Expr} {md : ME} (ha : DE X c W a ma) (hb : DE X c W b mb) (hd : DE X c W d md) (hm : lastMarks [.Lt, .Lt] [b, d] = false := by with_unfolding_all rfl) : DE X c W (.Compare a [.Lt, .Lt] [b, d] pos) (mChain ltD ltD ma mb md) := pe_imp (pe_chain op_ltA op_ltA ha hb hd hm) (chain_imp o_lt o_lt n_lt n_lt)

/-! is: None, or a truth; of any value -/
def rIsAny : R2 := fun x y H Q => (y = .non ∨ ∃ b, y = .bl b) ∧ Q (.bl (decide (x = y))) H
def rIsnAny : R2 := fun x y H Q => (y = .non ∨ ∃ b, y = .bl b) ∧ Q (.bl (!decide (x = y))) H
theorem bl_other {x : V} {b : Bool} {v : Value} (r : RelV x v) (h : x ≠ .bl b) : v ≠ Value.bool b := fun e => by
  subst e
  cases x <;> first | (obtain ⟨_, z⟩ := r; cases z; done) | (have z : Value.bool b = _ := r; cases z; first | exact h rfl | done)
theorem plain_bl {x : V} {b : Bool} {v : Value} (r : RelV x v) : plainIs v (Value.bool b) = true := by
  cases x <;> first | (obtain ⟨_, z⟩ := r; subst z; rfl) | (have z : v = _ := r; subst z; rfl)
theorem op_isAny : OpR X (compareOp .Is) rIsAny := by
  intro pins s σ H x y v u Q I rx ry h
  obtain ⟨hy, q⟩ := h
  rcases hy with rfl | ⟨b, rfl⟩
  · exact op_isN pins s σ H x .non v u Q I rx ry ⟨rfl, q⟩
  · cases (show u = Value.bool b from ry)
    by_cases e : x = .bl b
    · subst e
      cases (show v = Value.bool b from rx)
      exact wpAny_is_self rfl ⟨.bl true, H, I, rfl, by simpa using q⟩
    · exact wpAny_is_other (plain_bl rx) (bl_other rx e) ⟨.bl false, H, I, rfl, by simpa [e] using q⟩
theorem op_isnAny : OpR X (compareOp .IsNot) rIsnAny := by
  intro pins s σ H x y v u Q I rx ry h
  obtain ⟨hy, q⟩ := h
  rcases hy with rfl | ⟨b, rfl⟩
  · exact op_notN pins s σ H x .non v u Q I rx ry ⟨rfl, q⟩
  · cases (show u = Value.bool b from ry)
    by_cases e : x = .bl b
    · subst e
      cases (show v = Value.bool b from rx)
      exact wpAny_isNot_self rfl ⟨.bl false, H, I, rfl, by simpa using q⟩
    · exact wpAny_isNot_other (plain_bl rx) (bl_other rx e) ⟨.bl true, H, I, rfl, by simpa [e] using q⟩
/-- whether a value is this one of None, True, False -/
def isB : D → D → Option Bool
  | .slot _, _ => none
  | .raw _, _ => none
  | .non, .non => some true
  | .bl a, .bl b => some (decide (a = b))
  | _, .non => some false
  | _, .bl _ => some false
  | _, _ => none
def isA (a b : D) : Option D := (isB a b).map .bl
def isnA (a b : D) : Option D := (isB a b).map fun k => .bl (!k)
theorem is_val {K : PySem.W.Frag} {M : Addr → Prop} {H : Hp} {v w : V} {a b : D} {k : Bool} (ra : RepR K M H v a) (rb : RepR K M H w b) (e : isB a b = some k) : (w = .non ∨ ∃ b, w = .bl b) ∧ decide (v = w) = k := by
  have vt : ∀ {ds}, a = .tup ds → ∃ p, v = .ref p := fun h => by subst h; obtain ⟨p, _, h, _⟩ := ra.tupE; exact ⟨p, h⟩
  have vl : ∀ {ds}, a = .lst ds → ∃ p, v = .ref p := fun h => by subst h; obtain ⟨p, _, h, _⟩ := ra.lstE; exact ⟨p, h⟩
  have vr : ∀ {ds}, a = .ro ds → ∃ p, v = .ref p := fun h => by subst h; obtain ⟨p, _, h, _⟩ := ra.roE; exact ⟨p, h⟩
  have vd : ∀ {ds}, a = .dic ds → ∃ p, v = .ref p := fun h => by subst h; obtain ⟨p, _, h, _⟩ := ra.dicE; exact ⟨p, h⟩
  cases b <;> first | (cases a <;> cases e; done) | skip
  · rw [rb.nonE]
    refine ⟨.inl rfl, ?_⟩
    cases a <;> cases e
    · rw [ra.nonE]; rfl
    · rw [ra.blE]; rfl
    · rw [ra.intE]; rfl
    · rw [ra.strE]; rfl
    · obtain ⟨p, h⟩ := vt rfl; rw [h]; rfl
    · obtain ⟨p, h⟩ := vl rfl; rw [h]; rfl
    · obtain ⟨p, h⟩ := vr rfl; rw [h]; rfl
    · obtain ⟨p, h⟩ := vd rfl; rw [h]; rfl
  · rename_i y
    rw [rb.blE]
    refine ⟨.inr ⟨_, rfl⟩, ?_⟩
    cases a <;> cases e
    · rw [ra.nonE]; rfl
    · rename_i x
      rw [ra.blE]
      by_cases h : x = y
      · subst h; simp
      · rw [decide_eq_false h, decide_eq_false fun z => h (V.bl.inj z)]
    · rw [ra.intE]; rfl
    · rw [ra.strE]; rfl
    · obtain ⟨p, h⟩ := vt rfl; rw [h]; rfl
    · obtain ⟨p, h⟩ := vl rfl; rw [h]; rfl
    · obtain ⟨p, h⟩ := vr rfl; rw [h]; rfl
    · obtain ⟨p, h⟩ := vd rfl; rw [h]; rfl
theorem n_is : (∀ i b, isB (.slot i) b = none) ∧ ∀ i a, isB a (.slot i) = none := ⟨fun _ b => by cases b <;> rfl, fun _ a => by cases a <;> rfl⟩
theorem de_is (ha : DE X c W a ma) (hb : DE X c W b mb) : DE X c W (.Compare a [.Is] [b] pos) (m2 isA ma mb) :=
  pe_imp (pe_cmpR op_isAny ha hb (nomark _)) (m2_imp (fun F σ δ τ H v a w b d Q S ra rb e k => by
    unfold isA at e
    cases q : isB a b with
    | none => rw [q] at e; cases e
    | some t =>
      rw [q] at e
      cases e
      obtain ⟨h1, h2⟩ := is_val ra rb q
      exact ⟨h1, by rw [h2]; exact k _ H S (.bl _)⟩) ⟨fun i b => by unfold isA; rw [n_is.1]; rfl, fun i a => by unfold isA; rw [n_is.2]; rfl⟩)
theorem de_isn (ha : DE X c W a ma) (hb : DE X c W b mb) : DE X c W (.Compare a [.IsNot] [b] pos) (m2 isnA ma mb) :=
  pe_imp (pe_cmpR op_isnAny ha hb (nomark _)) (m2_imp (fun F σ δ τ H v a w b d Q S ra rb e k => by
    unfold isnA at e
    cases q : isB a b with
    | none => rw [q] at e; cases e
    | some t =>
      rw [q] at e
      cases e
      obtain ⟨h1, h2⟩ := is_val ra rb q
      exact ⟨h1, by rw [h2]; exact k _ H S (.bl _)⟩) ⟨fun i b => by unfold isnA; rw [n_is.1]; rfl, fun i a => by unfold isnA; rw [n_is.2]; rfl⟩)
/-! in -/
def rInAll (K : PySem.W.Frag) : R2 := fun x y H Q => (∃ i j, x = .str i ∧ y = .str j ∧ Q (.bl (inS i j)) H) ∨ rInD K x y H Q
def rNinAll (K : PySem.W.Frag) : R2 := fun x y H Q => (∃ i j, x = .str i ∧ y = .str j ∧ Q (.bl (!inS i j)) H) ∨ rNotInD K x y H Q
theorem in_cases {K : PySem.W.Frag} {M : Addr → Prop} {H : Hp} {v w : V} {a b : D} {k : Bool} (ra : RepR K M H v a) (rb : RepR K M H w b) (e : inB a b = some k) :
    (∃ i j, v = .str i ∧ w = .str j ∧ k = inS i j) ∨ ∃ d ds, Dp K H v d ∧ Dp K H w (.list ds) ∧ SeqAt.shaped d = true ∧ SeqAt.shaped (.list ds) = true ∧ k = ds.any fun z => PyData.eqv z d := by
  have go : ∀ {bs : List D}, (toPys bs).map PyData.list = toPy b → inL a bs = some k → ∃ d ds, Dp K H v d ∧ Dp K H w (.list ds) ∧ SeqAt.shaped d = true ∧ SeqAt.shaped (.list ds) = true ∧ k = ds.any fun z => PyData.eqv z d := fun {bs} hb q => by
    unfold inL at q
    cases h1 : toPy a with
    | none => rw [h1] at q; cases q
    | some x =>
      rw [h1] at q
      cases h2 : toPys bs with
      | none => rw [h2] at q; cases q
      | some ys =>
        rw [h2] at q hb
        simp only [Option.bind_some] at q
        split at q
        · rename_i hs
          exact ⟨x, ys, dpR_of ra h1, dpR_of rb hb.symm, hs.1, hs.2, (Option.some.inj q).symm⟩
        · cases q
  cases b with
  | str y =>
    cases a with
    | str x => rw [ra.strE, rb.strE]; cases e; exact .inl ⟨_, _, rfl, rfl, rfl⟩
    | _ => cases e
  | lst bs => exact .inr (go (bs := bs) (by simp [toPy]) (by cases a <;> exact e))
  | ro bs => exact .inr (go (bs := bs) (by simp [toPy]) (by cases a <;> exact e))
  | _ => cases a <;> cases e
theorem n_in : (∀ i b, inB (.slot i) b = none) ∧ ∀ i a, inB a (.slot i) = none := ⟨fun i b => by cases b <;> first | rfl | (show inL _ _ = none; unfold inL; simp [toPy]), fun _ a => by cases a <;> rfl⟩
theorem de_in (hu : X.A.units + 65 < cLine) (ha : DE X c W a ma) (hb : DE X c W b mb) (hm : behindInMarks .In b = false := by with_unfolding_all rfl) : DE X c W (.Compare a [.In] [b] pos) (m2 inD ma mb) :=
  pe_imp (pe_cmpR (OpR.or op_in_str (op_inD hu)) ha hb hm) (m2_imp (fun F σ δ τ H v a w b d Q S ra rb e k => by
    unfold inD at e
    cases q : inB a b with
    | none => rw [q] at e; cases e
    | some t =>
      rw [q] at e
      cases e
      rcases in_cases ra rb q with ⟨i, j, rfl, rfl, rfl⟩ | ⟨d, e, h1, h2, h3, h4, h5⟩
      · exact .inl ⟨_, _, rfl, rfl, k _ H S (.bl _)⟩
      · exact .inr ⟨d, e, h1, h2, h3, h4, by rw [← h5]; exact k _ H S (.bl _)⟩) ⟨fun i b => by unfold inD; rw [n_in.1]; rfl, fun i a => by unfold inD; rw [n_in.2]; rfl⟩)
theorem de_nin (hu : X.A.units + 65 < cLine) (ha : DE X c W a ma) (hb : DE X c W b mb) (hm : behindInMarks .NotIn b = false := by with_unfolding_all rfl) : DE X c W (.Compare a [.NotIn] [b] pos) (m2 ninD ma mb) :=
  pe_imp (pe_cmpR (OpR.or op_notIn_str (op_notInD hu)) ha hb hm) (m2_imp (fun F σ δ τ H v a w b d Q S ra rb e k => by
    unfold ninD at e
    cases q : inB a b with
    | none => rw [q] at e; cases e
    | some t =>
      rw [q] at e
      cases e
      rcases in_cases ra rb q with ⟨i, j, rfl, rfl, rfl⟩ | ⟨d, e, h1, h2, h3, h4, h5⟩
      · exact .inl ⟨_, _, rfl, rfl, k _ H S (.bl _)⟩
      · exact .inr ⟨d, e, h1, h2, h3, h4, by rw [← h5]; exact k _ H S (.bl _)⟩) ⟨fun i b => by unfold ninD; rw [n_in.1]; rfl, fun i a => by unfold ninD; rw [n_in.2]; rfl⟩)

/-! ### subscripts, slices -/
theorem de_ix (ha : DE X c W a ma) (hb : DE X c W b mb) (hs : PlainIx b) : DE X c W (.Subscript a b pos) (m2 ixD ma mb) :=
  pe_imp (pe_ix ix_seq ha hb hs) (m2_imp (fun F σ δ τ H v a w b d Q S ra rb e k => by
    cases a <;> cases b <;> first | (cases e; done) | skip
    · rw [ra.strE, rb.intE]
      unfold ixD at e
      simp only at e
      split at e
      · rename_i z i hz
        cases q : atI z.cps.toList i with
        | none => rw [q] at e; cases e
        | some n => rw [q] at e; cases e; exact .inr (.inr ⟨_, _, n, rfl, rfl, hz, q, k _ H S (.str _)⟩)
      · cases e
    · obtain ⟨p, vs, rfl, hs, l⟩ := ra.tupE
      rw [rb.intE]
      obtain ⟨u, h1, h2⟩ := getL l e
      exact .inr (.inl ⟨p, vs, _, u, rfl, rfl, hs, h1, k _ H S h2⟩)
    · obtain ⟨p, vs, rfl, hs, l⟩ := ra.lstE
      rw [rb.intE]
      obtain ⟨u, h1, h2⟩ := getL l e
      exact .inl ⟨p, vs, _, u, rfl, rfl, SqL.of hs, h1, k _ H S h2⟩
    · obtain ⟨p, vs, rfl, hs, l⟩ := ra.roE
      rw [rb.intE]
      obtain ⟨u, h1, h2⟩ := getL l e
      exact .inl ⟨p, vs, _, u, rfl, rfl, hs, h1, k _ H S h2⟩) ⟨fun _ b => by cases b <;> rfl, fun _ a => by cases a <;> rfl⟩)
abbrev MO := Dl → Er (Option Int)
def mNoPart : MO := fun δ => .ok none δ
def mPart (m : ME) : MO := fun δ => (m δ).bind fun d δ1 => match d with
  | .int i => .ok (some i) δ1
  | _ => .stuck
def tDO (K : PySem.W.Frag) (mg : Str → Option Value) (c : Ctx) (W : WX) (m : MO) : TO := fun σ H Q => ∃ F δ τ, SRF K c F σ δ τ H ∧
  (m δ).post (fun o δ' => ∀ H' F', SRF K c F' σ δ' τ H' → Q o H') (kX K mg c W σ τ)
abbrev DO (X : Cx) (c : Ctx) (W : WX) (e : Option Expr) (m : MO) : Prop := PO X e (tDO X.K X.mg c W m)
theorem do_none : DO X c W none mNoPart := ⟨fun pins s σ H Q I ⟨F, δ, τ, S, h⟩ => po_none.run pins s σ H Q I (h H F S)⟩
theorem do_some {m : ME} (h : DE X c W e m) : DO X c W (some e) (mPart m) := ⟨fun pins s σ H Q I ⟨F, δ, τ, S, q⟩ => (po_some h).run pins s σ H Q I (by
  unfold mPart at q
  rw [Er.post_bind] at q
  refine ⟨F, δ, τ, S, Er.post_mono q (fun d δ1 h v H1 F1 S1 => ?_) fun x δ' q => q⟩
  cases d with
  | int i =>
    have r := S1.top.rep rfl
    cases r
    exact ⟨i, rfl, h H1 F1 S1.drop⟩
  | _ => exact h.elim)⟩
def mSl (m : ME) (lo hi : MO) : ME := fun δ => (m δ).bind fun d δ1 => (lo δ1).bind fun l δ2 => (hi δ2).bind fun u δ3 => optE (slD (deref δ3 d) l u) δ3
theorem SlR.or3 {r r' r'' : V → Option Int → Option Int → Hp → VK → Prop} (h : SlR X r) (h' : SlR X r') (h'' : SlR X r'') : SlR X (fun x lo hi H Q => r x lo hi H Q ∨ r' x lo hi H Q ∨ r'' x lo hi H Q) := SlR.or h (SlR.or h' h'')
theorem de_sl {lo hi : Option Expr} {ml mh : MO} {p2 : Pos} (ha : DE X c W a ma) (hl : DO X c W lo ml) (hh : DO X c W hi mh) : DE X c W (.Subscript a (.Slice lo hi none p2) pos) (mSl ma ml mh) :=
  pe_imp (pe_slice (SlR.or3 sl_list sl_tupA sl_str) ha hl hh) fun σ H Q ⟨F, δ, τ, S, h⟩ => by
    unfold mSl at h
    rw [Er.post_bind] at h
    refine ⟨F, δ, τ, S, Er.post_mono h (fun d δ1 h v H1 F1 S1 => ?_) fun x δ' q => q⟩
    rw [Er.post_bind] at h
    refine ⟨F1, δ1, _, S1, Er.post_mono h (fun l δ2 h H2 F2 S2 => ?_) fun x δ' q => q.drop⟩
    rw [Er.post_bind] at h
    refine ⟨F2, δ2, _, S2, Er.post_mono h (fun u δ3 h H3 F3 S3 => ?_) fun x δ' q => q.drop⟩
    cases e : slD (deref δ3 d) l u with
    | none => rw [e] at h; exact h.elim
    | some z =>
      rw [e] at h
      have R := opd_of (f := fun t => slD t l u) S3 S3.top (fun _ => rfl) e
      have S4 := S3.drop
      generalize deref δ3 d = t at R e
      cases t with
      | lst ds =>
        cases e
        obtain ⟨p, vs, rfl, hs, lr⟩ := R.lstE
        exact .inl ⟨p, vs, rfl, SqL.of hs, fun q hq => h _ _ F3 ((S4.alloc hq).push (.inr (.lst ⟨upd_same, S4.fresh hq⟩ ((cut_rep lr).mv (mv_alloc hq)))))⟩
      | ro ds =>
        cases e
        obtain ⟨p, vs, rfl, hs, lr⟩ := R.roE
        exact .inl ⟨p, vs, rfl, hs, fun q hq => h _ _ F3 ((S4.alloc hq).push (.inr (.lst ⟨upd_same, S4.fresh hq⟩ ((cut_rep lr).mv (mv_alloc hq)))))⟩
      | tup ds =>
        cases e
        have R' := R
        obtain ⟨p, vs, rfl, hs, lr⟩ := R.tupE
        refine .inr (.inl ⟨p, vs, rfl, hs, fun hw => ?_, fun _ q hq => h _ _ F3 ((S4.alloc hq).push (.inr (.tup (.inl ⟨.inl upd_same, S4.fresh hq⟩) ((cut_rep lr).mv (mv_alloc hq)))))⟩)
        have e1 : cutD ds l u = ds := by
          unfold cutD
          rw [lr.length] at hw
          rw [hw.1, hw.2]
          simp
        rw [e1] at h
        cases R' with
        | of R' => exact h _ _ F3 (S4.push (.inr R'))
      | str y =>
        have e : (if y.length ≤ sizeLine then some (D.str (cutS y l u)) else none) = some z := e
        split at e
        · rename_i hz
          cases e
          rw [R.strE]
          exact .inr (.inr ⟨y, rfl, hz, h _ _ F3 (S4.push (.inr (.str _)))⟩)
        · cases e
      | _ => cases e
end
end DL
set_option Elab.async false
set_option linter.all false
set_option maxRecDepth 100000
set_option autoImplicit false
/-! DL10: built-ins, methods, stores into containers, dicts. -/
namespace DL
open PySem PySem.Spec PyProof.Rows L2
def lenD : List D → Option D
  | [.str z] => if z.length ≤ sizeLine then some (.int z.length) else none
  | [.lst ds] => some (.int ds.length)
  | [.ro ds] => some (.int ds.length)
  | [.tup ds] => some (.int ds.length)
  | [.dic ds] => some (.int ds.length)
  | _ => none
def tyN : D → Option String
  | .non => some "NoneType"
  | .bl _ => some "bool"
  | .int _ => some "int"
  | .str _ => some "str"
  | .tup _ => some "tuple"
  | .lst _ => some "list"
  | .ro _ => some "list"
  | .dic _ => some "dict"
  | _ => none
def isiN (a b : String) : Option Bool :=
  if b = "int" ∧ a = "bool" then some true
  else if (a = "NoneType" ∨ a = "bool" ∨ a = "int" ∨ a = "str" ∨ a = "tuple" ∨ a = "list" ∨ a = "dict") ∧ (b = "bool" ∨ b = "int" ∨ b = "str" ∨ b = "tuple" ∨ b = "list" ∨ b = "dict") then some (decide (a = b)) else none
def isiD : List D → Option D
  | [d, .raw (.ty n)] => (tyN d).bind fun a => (isiN a n).map .bl
  | _ => none
def absD : List D → Option D
  | [.int i] => some (.int (if i < 0 then -i else i))
  | _ => none
def intD : List D → Option D
  | [.int i] => some (.int i)
  | [.bl k] => some (.int (if k then 1 else 0))
  | [.str a] => if a.length ≤ 640 then (PySem.intText? a).map .int else none
  | _ => none
def strD : List D → Option D
  | [.int i] => if i.natAbs.log2 < 1920 then some (.str (toString i)) else none
  | [.str a] => some (.str a)
  | _ => none
def tupleD : List D → Option D
  | [.lst ds] => some (.tup ds)
  | [.ro ds] => some (.tup ds)
  | [.tup ds] => some (.tup ds)
  | _ => none
def listD : List D → Option R
  | [.lst ds] => some (.lst ds)
  | [.ro ds] => some (.lst ds)
  | [.tup ds] => some (.lst ds)
  | _ => none
def blsD : List D → Option (List Bool)
  | [] => some []
  | .bl b :: ds => (blsD ds).map fun r => b :: r
  | _ => none
def intsD : List D → Option (List Int)
  | [] => some []
  | .int b :: ds => (intsD ds).map fun r => b :: r
  | _ => none
def strsD : List D → Option (List Str)
  | [] => some []
  | .str b :: ds => (strsD ds).map fun r => b :: r
  | _ => none
def allD : List D → Option D
  | [.lst ds] => (blsD ds).map fun bs => .bl (bs.all id)
  | _ => none
def anyD : List D → Option D
  | [.lst ds] => (blsD ds).map fun bs => .bl (bs.any id)
  | _ => none
def sumD : List D → Option D
  | [.lst ds] => (intsD ds).map fun bs => .int bs.sum
  | _ => none
def max2D : List D → Option D
  | [.int i, .int j] => some (.int (if j > i then j else i))
  | _ => none
def min2D : List D → Option D
  | [.int i, .int j] => some (.int (if j < i then j else i))
  | _ => none
def listMax : List Int → Int
  | [] => 0
  | x :: xs => xs.foldl max x
def listMin : List Int → Int
  | [] => 0
  | x :: xs => xs.foldl min x
def max1D : List D → Option D
  | [.lst ds] => (intsD ds).bind fun bs => if 0 < bs.length then some (.int (listMax bs)) else none
  | _ => none
def min1D : List D → Option D
  | [.lst ds] => (intsD ds).bind fun bs => if 0 < bs.length then some (.int (listMin bs)) else none
  | _ => none
def joinD (z : Str) : List D → Option D
  | [.lst ds] => (strsD ds).bind fun ys => if (ys.map (·.length)).sum + ys.length * z.length ≤ 16777216 then some (.str (Txt.join z ys)) else none
  | [.tup ds] => (strsD ds).bind fun ys => if (ys.map (·.length)).sum + ys.length * z.length ≤ 16777216 then some (.str (Txt.join z ys)) else none
  | _ => none
def findD (z : Str) : List D → Option D
  | [.str y] => some (.int (Txt.find z y))
  | _ => none
section
variable {K : PySem.W.Frag} {M : Addr → Prop} {H : Hp}
theorem bls_of : ∀ {ds : List D} {vs : List V} {bs : List Bool}, RepL K M H vs ds → blsD ds = some bs → vs = bs.map V.bl
  | [], _, _, h, e => by cases h; cases e; rfl
  | d :: ds, _, bs, h, e => by
    cases h with
    | cons h l =>
      cases d <;> first | (cases e; done) | skip
      cases h
      rename_i b
      have e : (blsD ds).map (fun r => b :: r) = some bs := e
      cases q : blsD ds with
      | none => rw [q] at e; cases e
      | some r => rw [q] at e; cases e; rw [bls_of l q]; rfl
theorem ints_of : ∀ {ds : List D} {vs : List V} {bs : List Int}, RepL K M H vs ds → intsD ds = some bs → vs = bs.map V.int
  | [], _, _, h, e => by cases h; cases e; rfl
  | d :: ds, _, bs, h, e => by
    cases h with
    | cons h l =>
      cases d <;> first | (cases e; done) | skip
      cases h
      rename_i b
      have e : (intsD ds).map (fun r => b :: r) = some bs := e
      cases q : intsD ds with
      | none => rw [q] at e; cases e
      | some r => rw [q] at e; cases e; rw [ints_of l q]; rfl
theorem strs_of : ∀ {ds : List D} {vs : List V} {bs : List Str}, RepL K M H vs ds → strsD ds = some bs → vs = bs.map V.str
  | [], _, _, h, e => by cases h; cases e; rfl
  | d :: ds, _, bs, h, e => by
    cases h with
    | cons h l =>
      cases d <;> first | (cases e; done) | skip
      cases h
      rename_i b
      have e : (strsD ds).map (fun r => b :: r) = some bs := e
      cases q : strsD ds with
      | none => rw [q] at e; cases e
      | some r => rw [q] at e; cases e; rw [strs_of l q]; rfl
theorem ty_of {v : V} {d : D} {n : String} (h : RepR K M H v d) (e : tyN d = some n) : TyX K H v (.type n) := by
  cases d with
  | non => rw [h.nonE]; cases e; exact .base .non
  | bl b => rw [h.blE]; cases e; exact .base (.bl _)
  | int b => rw [h.intE]; cases e; exact .base (.int _)
  | str b => rw [h.strE]; cases e; exact .base (.str _)
  | tup ds =>
    obtain ⟨a, vs, rfl, hs, _⟩ := h.tupE
    cases e
    rcases hs with (h | ⟨o, h⟩) | ⟨o, its, n, h1, h2, _⟩
    · exact .base (.tup h)
    · exact .fTuple h
    · exact .kTuple h1 h2
  | lst ds =>
    obtain ⟨a, vs, rfl, hs, _⟩ := h.lstE
    cases e
    exact .base (.lst hs)
  | ro ds =>
    obtain ⟨a, vs, rfl, hs, _⟩ := h.roE
    cases e
    rcases hs with (h | ⟨o, h⟩) | ⟨o, its, n, h1, h2, _⟩
    · exact .base (.lst h)
    · exact .base (.frz h)
    · exact .kList h1 h2
  | dic ds =>
    obtain ⟨a, vs, rfl, hs, _⟩ := h.dicE
    cases e
    exact .base (.dK hs)
  | raw u => cases e
  | slot i => cases e
theorem isi_of {a b : String} {k : Bool} (e : isiN a b = some k) : PySem.W.kitOne K (.type a) (.type b) = some k := by
  unfold isiN at e
  split at e
  · rename_i h
    obtain ⟨rfl, rfl⟩ := h
    cases e
    exact kit_ty (by decide +kernel)
  · split at e
    · rename_i h0 h
      obtain ⟨h1, h2⟩ := h
      rcases h1 with rfl | rfl | rfl | rfl | rfl | rfl | rfl <;> rcases h2 with rfl | rfl | rfl | rfl | rfl | rfl <;> (cases e; first | exact (h0 ⟨rfl, rfl⟩).elim | exact kit_ty (by decide +kernel))
    · cases e
end
section
variable {X : Cx} {c : Ctx} {W : WX} {a b e : Expr} {es : List Expr} {ma mb : ME} {ms : ML} {p pos : Pos} {x : Str}
theorem nsA_of {f : List D → Option D} (h : ∀ ds d, f ds = some d → ∀ x ∈ ds, unslot1 x = true) : NsA f := h
/-- a call of a built-in by name, by values -/
theorem de_blt {f : List D → Option D} {r : List V → Hp → VK → Prop} {id : String} (hc : CallR X (.builtin id) r) (o : OpA X c r f) (ns : NsA f) (hg : Gl X x) (hm : X.mg x = none) (hv : bootBuiltins x = some (.builtin id)) (ha : DA X c W (e :: es) ms) (hn : x ≠ "__name__" := by decide) (hdb : (x == ("__debug__" : Str)) = false := by decide)
    (he : starEach (e :: es) X.env = (false, eval e X.env) :: starEach es X.env := by rfl) (hpl : (backTo pos (starEach es X.env)).any (·.1) = false := by rfl) : DE X c W (.Call (.Name x p) (e :: es) [] pos) (mA f ms) :=
  pe_imp (pe_callB hc hg hm hv ha hn hdb he hpl) (mA_imp o ns)
theorem de_blty {f : List D → Option D} {r : List V → Hp → VK → Prop} {T : String} (hc : CallR X (.type T) r) (o : OpA X c r f) (ns : NsA f) (hg : Gl X x) (hm : X.mg x = none) (hv : bootBuiltins x = some (.type T)) (ha : DA X c W (e :: es) ms) (hn : x ≠ "__name__" := by decide) (hdb : (x == ("__debug__" : Str)) = false := by decide)
    (he : starEach (e :: es) X.env = (false, eval e X.env) :: starEach es X.env := by rfl) (hpl : (backTo pos (starEach es X.env)).any (·.1) = false := by rfl) : DE X c W (.Call (.Name x p) (e :: es) [] pos) (mA f ms) :=
  pe_imp (pe_callTy hc hg hm hv ha hn hdb he hpl) (mA_imp o ns)
theorem rs1 {K : PySem.W.Frag} {M : Addr → Prop} {H : Hp} {vs : List V} {d : D} (h : RepRs K M H vs [d]) : ∃ v, vs = [v] ∧ RepR K M H v d := by
  cases h with
  | cons h l => cases l; exact ⟨_, rfl, h⟩
theorem rs2 {K : PySem.W.Frag} {M : Addr → Prop} {H : Hp} {vs : List V} {d d2 : D} (h : RepRs K M H vs [d, d2]) : ∃ v w, vs = [v, w] ∧ RepR K M H v d ∧ RepR K M H w d2 := by
  cases h with
  | cons h l =>
    obtain ⟨w, rfl, h2⟩ := rs1 l
    exact ⟨_, _, rfl, h, h2⟩
/-- len -/
def rLenAll (K : PySem.W.Frag) : List V → Hp → VK → Prop := fun xs H Q => (∃ x n, xs = [x] ∧ LenV K x H n ∧ Q (.int n) H) ∨ ∃ a kvs, xs = [V.ref a] ∧ H a = some (.dK kvs) ∧ Q (.int kvs.length) H
theorem repK_len {K : PySem.W.Frag} {M : Addr → Prop} {H : Hp} : ∀ {vs : List (Key × V)} {ds : List (Key × D)}, RepK K M H vs ds → vs.length = ds.length
  | _, _, .nil => rfl
  | _, _, .cons _ l => by simp [repK_len l]
theorem o_len : OpA X c (rLenAll X.K) lenD := fun F σ δ τ H vs ds d Q S r e k => by
  unfold lenD at e
  split at e
  · obtain ⟨v, rfl, h⟩ := rs1 r
    split at e
    · rename_i z hz
      cases e
      rw [h.strE]
      exact .inl ⟨_, _, rfl, ⟨hz, rfl⟩, k _ H S (.int _)⟩
    · cases e
  · obtain ⟨v, rfl, h⟩ := rs1 r
    cases e
    obtain ⟨a, us, rfl, hs, l⟩ := h.lstE
    exact .inl ⟨_, _, rfl, .inl ⟨us, SqL.of hs, l.length.symm⟩, k _ H S (.int _)⟩
  · obtain ⟨v, rfl, h⟩ := rs1 r
    cases e
    obtain ⟨a, us, rfl, hs, l⟩ := h.roE
    exact .inl ⟨_, _, rfl, .inl ⟨us, hs, l.length.symm⟩, k _ H S (.int _)⟩
  · obtain ⟨v, rfl, h⟩ := rs1 r
    cases e
    obtain ⟨a, us, rfl, hs, l⟩ := h.tupE
    exact .inl ⟨_, _, rfl, .inr ⟨us, hs, l.length.symm⟩, k _ H S (.int _)⟩
  · obtain ⟨v, rfl, h⟩ := rs1 r
    cases e
    obtain ⟨a, us, rfl, hs, l⟩ := h.dicE
    exact .inr ⟨_, _, rfl, hs, by rw [repK_len l]; exact k _ H S (.int _)⟩
  · cases e
theorem n_len : NsA lenD := fun ds d e x hx => by
  unfold lenD at e
  split at e <;> first | (rw [List.mem_singleton.mp hx]; rfl) | cases e
theorem de_len (hg : Gl X "len") (hm : X.mg "len" = none) (ha : DA X c W [e] ms) (he : starEach [e] X.env = (false, eval e X.env) :: starEach [] X.env := by rfl) : DE X c W (.Call (.Name "len" p) [e] [] pos) (mA lenD ms) :=
  de_blt (CallR.or call_len call_lenD) o_len n_len hg hm boot_len ha (he := he) (hpl := rfl)
theorem o_isi : OpA X c (rIsi X.K) isiD := fun F σ δ τ H vs ds d Q S r e k => by
  unfold isiD at e
  split at e
  · rename_i d0 n
    obtain ⟨v, w, rfl, h1, h2⟩ := rs2 r
    cases q : tyN d0 with
    | none => rw [q] at e; cases e
    | some t =>
      rw [q] at e
      simp only [Option.bind_some] at e
      cases q2 : isiN t n with
      | none => rw [q2] at e; cases e
      | some y =>
        rw [q2] at e
        cases e
        rw [h2.rawE]
        exact ⟨v, .ty n, .type t, .type n, y, rfl, .ty n, ty_of h1 q, isi_of q2, k _ H S (.bl _)⟩
  · cases e
theorem n_isi : NsA isiD := fun ds d e x hx => by
  unfold isiD at e
  split at e
  · rename_i d0 n
    rcases List.mem_cons.mp hx with h | hx
    · rw [h]
      cases d0 <;> first | rfl | cases e
    · rw [List.mem_singleton.mp hx]; rfl
  · cases e
theorem de_isi {es : List Expr} (hg : Gl X "isinstance") (hm : X.mg "isinstance" = none) (ha : DA X c W (e :: es) ms) (he : starEach (e :: es) X.env = (false, eval e X.env) :: starEach es X.env := by rfl) (hpl : (backTo pos (starEach es X.env)).any (·.1) = false := by rfl) : DE X c W (.Call (.Name "isinstance" p) (e :: es) [] pos) (mA isiD ms) :=
  de_blt call_isi o_isi n_isi hg hm (by decide +kernel) ha (he := he) (hpl := hpl)
/-- isinstance(x, (S, T)) -/
def isi2D (n m : String) (d : D) : Option D := (tyN d).bind fun a => (isiN a n).bind fun x => (isiN a m).map fun y => .bl (x || y)
theorem de_isi2 {n m : String} {eT eS : Expr} {x1 pT} (hg : Gl X "isinstance") (hm : X.mg "isinstance" = none) (ha : DE X c W e ma) (hT : PE X eT (tC (.ty n))) (hS : PE X eS (tC (.ty m)))
    (he : starEach [e, .Tuple [eT, eS] x1 pT] X.env = (false, eval e X.env) :: starEach [.Tuple [eT, eS] x1 pT] X.env := by rfl) (he2 : starEach [Expr.Tuple [eT, eS] x1 pT] X.env = (false, eval (.Tuple [eT, eS] x1 pT) X.env) :: starEach [] X.env := by rfl) (hpl : (backTo pos (starEach [Expr.Tuple [eT, eS] x1 pT] X.env)).any (·.1) = false := by rfl)
    (h3 : starEach [eT, eS] X.env = (false, eval eT X.env) :: starEach [eS] X.env := by rfl) (h4 : starEach [eS] X.env = (false, eval eS X.env) :: starEach [] X.env := by rfl) :
    DE X c W (.Call (.Name "isinstance" p) [e, .Tuple [eT, eS] x1 pT] [] pos) (m1 (isi2D n m) ma) :=
  pe_imp (pe_callB call_isiT hg hm (by decide +kernel) (pa_cons ha (pa_cons (pe_tup (pa_cons hT (pa_cons hS pa_nil h4) h3)) pa_nil he2) he) (he := he) (hpl := hpl)) fun σ H Q ⟨F, δ, τ, S, h⟩ => by
    unfold m1 at h
    rw [Er.post_bind] at h
    refine ⟨F, δ, τ, S, Er.post_mono h (fun d δ1 h v H1 F1 S1 => ?_) fun x δ' q => q⟩
    cases e : isi2D n m (deref δ1 d) with
    | none => rw [e] at h; exact h.elim
    | some u =>
      rw [e] at h
      have R := opd_of (f := isi2D n m) S1 S1.top (fun _ => rfl) e
      show [V.ty n, V.ty m].length ≤ sizeLine ∧ _
      refine ⟨by show 2 ≤ sizeLine; decide, fun tp hp => ?_⟩
      unfold isi2D at e
      cases q : tyN (deref δ1 d) with
      | none => rw [q] at e; cases e
      | some t =>
        rw [q] at e
        simp only [Option.bind_some] at e
        cases q2 : isiN t n with
        | none => rw [q2] at e; cases e
        | some y =>
          rw [q2] at e
          simp only [Option.bind_some] at e
          cases q3 : isiN t m with
          | none => rw [q3] at e; cases e
          | some z =>
            rw [q3] at e
            cases e
            have S2 := S1.alloc (o := .tup [V.ty n, V.ty m]) hp
            have R2 : RepR X.K (c.M F1) (upd H1 tp (.tup [V.ty n, V.ty m])) v (deref δ1 d) := by
              generalize deref δ1 d = dd at R
              cases R with
              | of R => exact .of (R.mv (mv_alloc hp))
              | lst h l => exact .lst (by rw [upd_ne (ne_of_none h hp)]; exact h) (l.mv (mv_alloc hp))
              | dic h l => exact .dic (by rw [upd_ne (ne_of_none h hp)]; exact h) (l.mv (mv_alloc hp))
            refine ⟨v, tp, [V.ty n, V.ty m], .type t, [.type n, .type m], y || z, rfl, upd_same, .cons (.ty n) (.cons (.ty m) .nil), ty_of R2 q, ?_, h _ _ F1 (S2.drop.push (.inr (.bl _)))⟩
            refine kitAny_cons (isi_of q2) (fun hy => ?_) fun hy => by rw [hy]; rfl
            refine kitAny_cons (isi_of q3) (fun hz => ?_) fun hz => by rw [hz]; simp
            rw [hy, hz]
            exact kitAny_nil
/-! abs, int, str, tuple -/
theorem de_abs (hg : Gl X "abs") (hm : X.mg "abs" = none) (ha : DA X c W [e] ms) (he : starEach [e] X.env = (false, eval e X.env) :: starEach [] X.env := by rfl) : DE X c W (.Call (.Name "abs" p) [e] [] pos) (mA absD ms) :=
  de_blt call_abs (fun F σ δ τ H vs ds d Q S r e k => by
    unfold absD at e
    split at e
    · obtain ⟨v, rfl, h⟩ := rs1 r
      cases e
      rw [h.intE]
      exact ⟨_, rfl, k _ H S (.int _)⟩
    · cases e) (fun ds d e x hx => by
    unfold absD at e
    split at e <;> first | (rw [List.mem_singleton.mp hx]; rfl) | cases e) hg hm (by decide +kernel) ha (he := he) (hpl := rfl)
def rIntAll : List V → Hp → VK → Prop := fun xs H Q => ((∃ i, xs = [.int i] ∧ Q (.int i) H) ∨ ∃ k, xs = [.bl k] ∧ Q (.int (if k then 1 else 0)) H) ∨ ∃ a n, xs = [.str a] ∧ PySem.intText? a = some n ∧ a.length ≤ 640 ∧ Q (.int n) H
theorem de_int (hg : Gl X "int") (hm : X.mg "int" = none) (ha : DA X c W [e] ms) (he : starEach [e] X.env = (false, eval e X.env) :: starEach [] X.env := by rfl) : DE X c W (.Call (.Name "int" p) [e] [] pos) (mA intD ms) :=
  de_blty (r := rIntAll) (CallR.or call_int1 call_int_str) (fun F σ δ τ H vs ds d Q S r e k => by
    unfold intD at e
    split at e
    · obtain ⟨v, rfl, h⟩ := rs1 r
      cases e
      rw [h.intE]
      exact .inl (.inl ⟨_, rfl, k _ H S (.int _)⟩)
    · obtain ⟨v, rfl, h⟩ := rs1 r
      cases e
      rw [h.blE]
      exact .inl (.inr ⟨_, rfl, k _ H S (.int _)⟩)
    · obtain ⟨v, rfl, h⟩ := rs1 r
      rename_i a
      split at e
      · rename_i hz
        cases q : PySem.intText? a with
        | none => rw [q] at e; cases e
        | some n =>
          rw [q] at e
          cases e
          rw [h.strE]
          exact .inr ⟨_, _, rfl, q, hz, k _ H S (.int _)⟩
      · cases e
    · cases e) (fun ds d e x hx => by
    unfold intD at e
    split at e <;> first | (rw [List.mem_singleton.mp hx]; rfl) | cases e) hg hm (by decide +kernel) ha (he := he) (hpl := rfl)
theorem de_str (hg : Gl X "str") (hm : X.mg "str" = none) (ha : DA X c W [e] ms) (he : starEach [e] X.env = (false, eval e X.env) :: starEach [] X.env := by rfl) : DE X c W (.Call (.Name "str" p) [e] [] pos) (mA strD ms) :=
  de_blty (CallR.or call_str_int SkE.call_str_str) (fun F σ δ τ H vs ds d Q S r e k => by
    unfold strD at e
    split at e
    · obtain ⟨v, rfl, h⟩ := rs1 r
      split at e
      · rename_i hz
        cases e
        rw [h.intE]
        exact .inl ⟨_, rfl, hz, k _ H S (.str _)⟩
      · cases e
    · obtain ⟨v, rfl, h⟩ := rs1 r
      cases e
      rw [h.strE]
      exact .inr ⟨_, rfl, k _ H S (.str _)⟩
    · cases e) (fun ds d e x hx => by
    unfold strD at e
    split at e <;> first | (rw [List.mem_singleton.mp hx]; rfl) | cases e) hg hm (by decide +kernel) ha (he := he) (hpl := rfl)
theorem de_tuple (hg : Gl X "tuple") (hm : X.mg "tuple" = none) (ha : DA X c W [e] ms) (he : starEach [e] X.env = (false, eval e X.env) :: starEach [] X.env := by rfl) : DE X c W (.Call (.Name "tuple" p) [e] [] pos) (mA tupleD ms) :=
  de_blty call_tuple_of (fun F σ δ τ H vs ds d Q S r e k => by
    unfold tupleD at e
    split at e
    · obtain ⟨v, rfl, h⟩ := rs1 r
      cases e
      obtain ⟨a, us, rfl, hs, l⟩ := h.lstE
      exact ⟨a, us, rfl, .inl ⟨SqL.of hs, fun q hq => k _ _ (S.alloc hq) (.tup (.inl ⟨.inl upd_same, S.fresh hq⟩) (l.mv (mv_alloc hq)))⟩⟩
    · obtain ⟨v, rfl, h⟩ := rs1 r
      cases e
      obtain ⟨a, us, rfl, hs, l⟩ := h.roE
      exact ⟨a, us, rfl, .inl ⟨hs, fun q hq => k _ _ (S.alloc hq) (.tup (.inl ⟨.inl upd_same, S.fresh hq⟩) (l.mv (mv_alloc hq)))⟩⟩
    · obtain ⟨v, rfl, h⟩ := rs1 r
      cases e
      have h' := h
      obtain ⟨a, us, rfl, hs, l⟩ := h.tupE
      cases h' with
      | of h' => exact ⟨a, us, rfl, .inr ⟨hs, k _ _ S h'⟩⟩
    · cases e) (fun ds d e x hx => by
    unfold tupleD at e
    split at e <;> first | (rw [List.mem_singleton.mp hx]; rfl) | cases e) hg hm (by decide +kernel) ha (he := he) (hpl := rfl)
/-- list(x): new -/
def mListF (ms : ML) : Dl → Er R := fun δ => (ms δ).bind fun ds δ1 => if δ1.length = δ.length then optE (listD (ds.map (deref δ1))) δ1 else .stuck
theorem df_list (hg : Gl X "list") (hm : X.mg "list" = none) (ha : DA X c W [e] ms) (he : starEach [e] X.env = (false, eval e X.env) :: starEach [] X.env := by rfl) : DF X c W (.Call (.Name "list" p) [e] [] pos) (mListF ms) :=
  pe_imp (pe_callTy call_list_of hg hm (by decide +kernel) ha (he := he) (hpl := rfl)) fun σ H Q ⟨F, δ, τ, S, h⟩ => by
    unfold mListF at h
    rw [Er.post_bind] at h
    refine ⟨F, δ, τ, S, Er.post_mono h (fun ds δ1 h vs H1 F1 hl S1 => ?_) fun x δ' q => q⟩
    split at h
    · rename_i hlen
      cases e : listD (ds.map (deref δ1)) with
      | none => rw [e] at h; exact h.elim
      | some u =>
        rw [e] at h
        have ns : ∀ x ∈ ds.map (deref δ1), unslot1 x = true := fun x hx => by
          generalize ds.map (deref δ1) = l at e hx
          unfold listD at e
          split at e <;> first | (rw [List.mem_singleton.mp hx]; rfl) | cases e
        have rs := repRs_of hl S1 ns
        generalize ds.map (deref δ1) = l at rs e
        unfold listD at e
        have fin : ∀ {q us es}, H1 q = none → RepL X.K (c.M F1) H1 us es → u = .lst es → Q (.ref q) (upd H1 q (.lst us)) := fun {q us es} hq lr eu => by
          subst eu
          exact h q _ _ hlen (S1.pops.pushOwn hq fun M m => ⟨us, upd_same, lr.mv m, fun _ => Iff.rfl⟩)
        split at e
        · obtain ⟨v, rfl, hr⟩ := rs1 rs
          cases e
          obtain ⟨a, us, rfl, hs, lr⟩ := hr.lstE
          exact ⟨a, us, rfl, .inl (SqL.of hs), fun q hq => fin hq lr rfl⟩
        · obtain ⟨v, rfl, hr⟩ := rs1 rs
          cases e
          obtain ⟨a, us, rfl, hs, lr⟩ := hr.roE
          exact ⟨a, us, rfl, .inl hs, fun q hq => fin hq lr rfl⟩
        · obtain ⟨v, rfl, hr⟩ := rs1 rs
          cases e
          obtain ⟨a, us, rfl, hs, lr⟩ := hr.tupE
          exact ⟨a, us, rfl, .inr hs, fun q hq => fin hq lr rfl⟩
        · cases e
    · exact h.elim
/-! all, any, sum, max, min -/
theorem de_all (hc : X.calm = true) (hg : Gl X "all") (hm : X.mg "all" = none) (ha : DA X c W [e] ms) (he : starEach [e] X.env = (false, eval e X.env) :: starEach [] X.env := by rfl) : DE X c W (.Call (.Name "all" p) [e] [] pos) (mA allD ms) :=
  de_blt (cr_all hc) (fun F σ δ τ H vs ds d Q S r e k => by
    unfold allD at e
    split at e
    · rename_i ds
      obtain ⟨v, rfl, h⟩ := rs1 r
      obtain ⟨a, us, rfl, hs, l⟩ := h.lstE
      cases q : blsD ds with
      | none => rw [q] at e; cases e
      | some bs =>
        rw [q] at e
        cases e
        have := bls_of l q
        subst this
        exact ⟨a, bs, rfl, SqL.of hs, k _ H S (.bl _)⟩
    · cases e) (fun ds d e x hx => by
    unfold allD at e
    split at e <;> first | (rw [List.mem_singleton.mp hx]; rfl) | cases e) hg hm (by decide +kernel) ha (he := he) (hpl := rfl)
theorem de_any (hc : X.calm = true) (hg : Gl X "any") (hm : X.mg "any" = none) (ha : DA X c W [e] ms) (he : starEach [e] X.env = (false, eval e X.env) :: starEach [] X.env := by rfl) : DE X c W (.Call (.Name "any" p) [e] [] pos) (mA anyD ms) :=
  de_blt (cr_any hc) (fun F σ δ τ H vs ds d Q S r e k => by
    unfold anyD at e
    split at e
    · rename_i ds
      obtain ⟨v, rfl, h⟩ := rs1 r
      obtain ⟨a, us, rfl, hs, l⟩ := h.lstE
      cases q : blsD ds with
      | none => rw [q] at e; cases e
      | some bs =>
        rw [q] at e
        cases e
        have := bls_of l q
        subst this
        exact ⟨a, bs, rfl, SqL.of hs, k _ H S (.bl _)⟩
    · cases e) (fun ds d e x hx => by
    unfold anyD at e
    split at e <;> first | (rw [List.mem_singleton.mp hx]; rfl) | cases e) hg hm (by decide +kernel) ha (he := he) (hpl := rfl)
/-! methods of texts -/
def mStr1 (f : Str → List D → Option D) (mo : ME) (ms : ML) : ME := fun δ => (mo δ).bind fun a δ1 => match a with
  | .str z => (ms δ1).bind fun ds δ2 => optE (f z (ds.map (deref δ2))) δ2
  | _ => .stuck
theorem de_strm {f : Str → List D → Option D} {r : V → List V → Hp → VK → Prop} {name : Str} {id : String} {apos : Pos} (slot : PySem.Slot "str" name id) (hty : typeOf (.builtin id) = pure (.type "method_descriptor")) (hmt : MtR X id r)
    (o : ∀ z, OpA X c (fun vs H Q => r (.str z) vs H Q) (f z)) (ns : ∀ z, NsA (f z)) (ho : DE X c W a ma) (ha : DA X c W (e :: es) ms)
    (hbase : attributeBase a name X.env (eval a X.env) = eval a X.env := by rfl)
    (hfew : ((backTo pos (starEach (e :: es) X.env)).all (fun x => !x.1) && (backToKw pos (keywordEach [] X.env)).all (fun x => x.1.isSome)
      && decide ((e :: es).length + ([] : List Keyword).length + (if ([] : List Keyword).isEmpty then 0 else 1) < 30)) = true := by rfl)
    (hline : (apos.endLine == pos.line) = true := by rfl) (hs : starEach (e :: es) X.env = (false, eval e X.env) :: starEach es X.env := by rfl) (hplain : (backTo pos (starEach es X.env)).any (·.1) = false := by rfl) :
    DE X c W (.Call (.Attribute a name apos) (e :: es) [] pos) (mStr1 f ma ms) :=
  pe_imp (pe_bm PySem.F.plainAttrs_str slot hty hmt ho ha hbase hfew hline hs hplain) fun σ H Q ⟨F, δ, τ, S, h⟩ => by
    unfold mStr1 at h
    rw [Er.post_bind] at h
    refine ⟨F, δ, τ, S, Er.post_mono h (fun d δ1 h v H1 F1 S1 => ?_) fun x δ' q => q⟩
    cases d with
    | str z =>
      have h : ((ms δ1).bind fun ds δ2 => optE (f z (ds.map (deref δ2))) δ2).post _ _ := h
      have rz := S1.top.rep rfl
      cases rz
      rw [Er.post_bind] at h
      refine ⟨rfl, F1, δ1, _, S1.drop, Er.post_mono h (fun ds δ2 h vs H2 F2 hl S2 => ?_) fun x δ' q => q⟩
      cases e : f z (ds.map (deref δ2)) with
      | none => rw [e] at h; exact h.elim
      | some u =>
        rw [e] at h
        exact o z F2 σ δ2 τ H2 vs _ u Q S2.pops (repRs_of hl S2 (ns _ _ _ e)) e fun w H' S' r' => h w H' F2 (S'.push (.inr r'))
    | _ => exact h.elim
theorem o_join {z : Str} : OpA X c (fun vs H Q => (fun x xs H Q => ∃ a p, ∃ ys : List Str, x = V.str a ∧ xs = [V.ref p] ∧ (SqL X.K H p (ys.map V.str) ∨ SqT X.K H p (ys.map V.str)) ∧
    (ys.map (·.length)).sum + ys.length * a.length ≤ 16777216 ∧ Q (V.str (Txt.join a ys)) H) (.str z) vs H Q) (joinD z) := fun F σ δ τ H vs ds d Q S r e k => by
  unfold joinD at e
  split at e
  · rename_i ds
    obtain ⟨v, rfl, h⟩ := rs1 r
    obtain ⟨a, us, rfl, hs, l⟩ := h.lstE
    cases q : strsD ds with
    | none => rw [q] at e; cases e
    | some ys =>
      rw [q] at e
      simp only [Option.bind_some] at e
      split at e
      · rename_i hz
        cases e
        have := strs_of l q
        subst this
        exact ⟨z, a, ys, rfl, rfl, .inl (SqL.of hs), hz, k _ H S (.str _)⟩
      · cases e
  · rename_i ds
    obtain ⟨v, rfl, h⟩ := rs1 r
    obtain ⟨a, us, rfl, hs, l⟩ := h.tupE
    cases q : strsD ds with
    | none => rw [q] at e; cases e
    | some ys =>
      rw [q] at e
      simp only [Option.bind_some] at e
      split at e
      · rename_i hz
        cases e
        have := strs_of l q
        subst this
        exact ⟨z, a, ys, rfl, rfl, .inr hs, hz, k _ H S (.str _)⟩
      · cases e
  · cases e
theorem n_join {z : Str} : NsA (joinD z) := fun ds d e x hx => by
  unfold joinD at e
  split at e <;> first | (rw [List.mem_singleton.mp hx]; rfl) | cases e
theorem de_join {apos : Pos} (ho : DE X c W a ma) (ha : DA X c W [e] ms)
    (hbase : attributeBase a "join" X.env (eval a X.env) = eval a X.env := by rfl)
    (hfew : ((backTo pos (starEach [e] X.env)).all (fun x => !x.1) && (backToKw pos (keywordEach [] X.env)).all (fun x => x.1.isSome)
      && decide ([e].length + ([] : List Keyword).length + (if ([] : List Keyword).isEmpty then 0 else 1) < 30)) = true := by rfl)
    (hline : (apos.endLine == pos.line) = true := by rfl) (hs : starEach [e] X.env = (false, eval e X.env) :: starEach [] X.env := by rfl) (hplain : (backTo pos (starEach [] X.env)).any (·.1) = false := by rfl) :
    DE X c W (.Call (.Attribute a "join" apos) [e] [] pos) (mStr1 joinD ma ms) :=
  de_strm PySem.F.slot_str_join PySem.F.type_str_join mt_join (fun z => o_join) (fun z => n_join) ho ha hbase hfew hline hs hplain
theorem de_find {apos : Pos} (ho : DE X c W a ma) (ha : DA X c W [e] ms)
    (hbase : attributeBase a "find" X.env (eval a X.env) = eval a X.env := by rfl)
    (hfew : ((backTo pos (starEach [e] X.env)).all (fun x => !x.1) && (backToKw pos (keywordEach [] X.env)).all (fun x => x.1.isSome)
      && decide ([e].length + ([] : List Keyword).length + (if ([] : List Keyword).isEmpty then 0 else 1) < 30)) = true := by rfl)
    (hline : (apos.endLine == pos.line) = true := by rfl) (hs : starEach [e] X.env = (false, eval e X.env) :: starEach [] X.env := by rfl) (hplain : (backTo pos (starEach [] X.env)).any (·.1) = false := by rfl) :
    DE X c W (.Call (.Attribute a "find" apos) [e] [] pos) (mStr1 findD ma ms) :=
  de_strm PySem.F.slot_str_find PySem.F.type_str_find mt_find (fun z F σ δ τ H vs ds d Q S r e k => by
    unfold findD at e
    split at e
    · obtain ⟨v, rfl, h⟩ := rs1 r
      cases e
      rw [h.strE]
      exact ⟨z, _, rfl, rfl, k _ H S (.int _)⟩
    · cases e) (fun z ds d e x hx => by
    unfold findD at e
    split at e <;> first | (rw [List.mem_singleton.mp hx]; rfl) | cases e) ho ha hbase hfew hline hs hplain
end
end DL
set_option Elab.async false
set_option linter.all false
set_option maxRecDepth 100000
set_option autoImplicit false
/-! DL11: owned lists and dicts changed, several targets, dict displays. -/
namespace DL
open PySem PySem.Spec PyProof.Rows L2

/-! ### an owned thing is changed -/
def putR (δ : Dl) (i : Nat) (r : R) : Dl := match δ[i]? with
  | some (.own _) => δ.set i (.own r)
  | some (.bor _) => δ.set i (.bor r)
  | _ => δ
def getR (δ : Dl) (i : Nat) : Option R := match δ[i]? with
  | some (.own r) => some r
  | some (.bor r) => some r
  | _ => none
theorem putR_length {δ : Dl} {i : Nat} {r : R} : (putR δ i r).length = δ.length := by
  unfold putR
  split <;> simp
theorem getR_res {δ : Dl} {i : Nat} {r : R} (h : getR δ i = some r) : IsRes δ i r := by
  unfold getR at h
  split at h
  · rename_i q; cases h; exact .inl q
  · rename_i q; cases h; exact .inr q
  · cases h
section
variable {K : PySem.W.Frag} {c : Ctx} {F : Nat → Addr → Prop} {σ : L2.St} {δ : Dl} {τ : List (V × D)} {H : Hp}
theorem putR_same {i : Nat} {r r' : R} (h : IsRes δ i r) : IsRes (putR δ i r') i r' ∧ ∀ r2, IsRes (putR δ i r') i r2 → r2 = r' := by
  have hi := h.lt
  unfold putR
  rcases h with h | h
  · rw [h]
    refine ⟨.inl (List.getElem?_set_self hi), fun r2 q => ?_⟩
    rcases q with q | q <;> (simp only [List.getElem?_set_self hi] at q; cases q) <;> rfl
  · rw [h]
    refine ⟨.inr (List.getElem?_set_self hi), fun r2 q => ?_⟩
    rcases q with q | q <;> (simp only [List.getElem?_set_self hi] at q; cases q) <;> rfl
theorem putR_ne {i j : Nat} {r : R} (h : i ≠ j) : (putR δ i r)[j]? = δ[j]? := by
  unfold putR
  split
  · exact List.getElem?_set_ne h
  · exact List.getElem?_set_ne h
  · rfl
theorem SRF.putR {i : Nat} {a : Addr} {r r' : R} {o : HO} (S : SRF K c F σ δ τ H) (h : IsRes δ i r) (hσ : σ[i]? = some (some (.ref a))) (hF : ∀ b, F i b ↔ b = a) (hr : ∀ M, Mv (c.M F) H M (upd H a o) → RAt K M (upd H a o) a r' (F i)) :
    SRF K c F σ (DL.putR δ i r') τ (upd H a o) := by
  have Fa : F i a := (hF a).mpr rfl
  have km : Mv (c.M F) H (c.M F) (upd H a o) := fun b u e n => ⟨by rw [upd_ne fun q => n (.inr ⟨i, by rw [q]; exact Fa⟩)]; exact e, n⟩
  obtain ⟨p1, p2⟩ := putR_same (r' := r') h
  have rs : ∀ {j : Nat} {r2 : R}, IsRes (DL.putR δ i r') j r2 → (j = i ∧ r2 = r') ∨ (j ≠ i ∧ IsRes δ j r2) := fun {j r2} q => by
    by_cases e : i = j
    · subst e; exact .inl ⟨rfl, p2 _ q⟩
    · refine .inr ⟨fun z => e z.symm, ?_⟩
      unfold IsRes at q ⊢
      rw [putR_ne e] at q
      exact q
  have rs2 : ∀ {j : Nat} {r2 : R}, IsRes δ j r2 → ∃ r3, IsRes (DL.putR δ i r') j r3 := fun {j r2} q => by
    by_cases e : i = j
    · subst e; exact ⟨_, p1⟩
    · refine ⟨r2, ?_⟩
      unfold IsRes at q ⊢
      rw [putR_ne e]
      exact q
  refine ⟨by rw [putR_length]; exact S.len, fun j d e => ?_, fun j r2 e => ?_, fun j b hb => ?_, S.dis, S.out, S.new, S.gdom, fun b u e n => ?_, fun p hp => ?_, fun p hp => ?_⟩
  · by_cases ij : i = j
    · subst ij
      rcases p1 with p1 | p1 <;> (rw [p1] at e; cases e)
    · rw [putR_ne ij] at e
      obtain ⟨v, h1, h2⟩ := S.val j d e
      exact ⟨v, h1, h2.mv km⟩
  · rcases rs e with ⟨rfl, rfl⟩ | ⟨ne, q⟩
    · exact ⟨a, hσ, hr _ km⟩
    · obtain ⟨b, h1, h2⟩ := S.res j r2 q
      exact ⟨b, h1, h2.mv km fun b hb => upd_ne fun z => ne (S.dis j i a (by rw [← z]; exact hb) Fa)⟩
  · obtain ⟨r2, q⟩ := S.off j b hb
    exact rs2 q
  · have nb : b ≠ a := fun z => by
      rcases S.new i a Fa with q | q
      · rw [← z, e] at q; cases q
      · exact n (by rw [z]; exact q)
    rw [upd_ne nb]
    exact S.keep b u e n
  · obtain ⟨h1, r2, h2⟩ := S.bor p hp
    refine ⟨h1, ?_⟩
    by_cases e : i = p.1
    · subst e
      unfold DL.putR
      rw [h2]
      exact ⟨r', List.getElem?_set_self (List.getElem?_eq_some_iff.mp h2).1⟩
    · exact ⟨r2, by rw [putR_ne e]; exact h2⟩
  · refine ((S.tmp p hp).mv km).st fun j r2 e q => ⟨rfl, rs2 q⟩
theorem SRF.lstAt {i : Nat} {ds : List D} (S : SRF K c F σ δ τ H) (h : IsRes δ i (.lst ds)) : ∃ a vs, σ[i]? = some (some (.ref a)) ∧ H a = some (.lst vs) ∧ RepL K (c.M F) H vs ds ∧ ∀ b, F i b ↔ b = a := by
  obtain ⟨a, h1, vs, h2, h3, h4⟩ := S.res i _ h
  exact ⟨a, vs, h1, h2, h3, h4⟩
theorem SRF.dicAt {i : Nat} {ds : List (Key × D)} (S : SRF K c F σ δ τ H) (h : IsRes δ i (.dic ds)) : ∃ a vs, σ[i]? = some (some (.ref a)) ∧ H a = some (.dK vs) ∧ RepK K (c.M F) H vs ds ∧ ∀ b, F i b ↔ b = a := by
  obtain ⟨a, h1, vs, h2, h3, h4⟩ := S.res i _ h
  exact ⟨a, vs, h1, h2, h3, h4⟩
end

/-! ### x.append(e), x[k] = e, x.pop(k) of an owned list -/
def mApp (i : Nat) (me : ME) : ME := fun δ => match getR δ i with
  | some (.lst _) => (me δ).bind fun d δ1 => match getR δ1 i with
    | some (.lst ds) => if unslot1 d = true ∧ ds.length < sizeLine then .ok .non (putR δ1 i (.lst (ds ++ [d]))) else .stuck
    | _ => .stuck
  | _ => .stuck
def mSetIx (i : Nat) (me mk : ME) : MS := fun δ => (me δ).out fun d δ1 => match getR δ1 i with
  | some (.lst _) => (mk δ1).out fun k δ2 => match k, getR δ2 i with
    | .int n, some (.lst ds) => (match ixN ds.length n with
      | some j => if unslot1 d = true then .nx (putR δ2 i (.lst (ds.set j d))) else .stuck
      | none => .stuck)
    | _, _ => .stuck
  | _ => .stuck
def mPopA (i : Nat) (mk : ME) : ME := fun δ => match getR δ i with
  | some (.lst _) => (mk δ).bind fun k δ1 => match k, getR δ1 i with
    | .int n, some (.lst ds) => if -(2 ^ 63) ≤ n ∧ n < 2 ^ 63 then (match seqIndex? n ds.length with
      | some j => (match ds[j]? with
        | some d => .ok d (putR δ1 i (.lst (ds.eraseIdx j)))
        | none => .stuck)
      | none => .stuck) else .stuck
    | _, _ => .stuck
  | _ => .stuck
section
variable {X : Cx} {c : Ctx} {W : WX} {o e : Expr} {me mk : ME} {pos apos : Pos} {i : Nat}
theorem de_app (ho : PE X o (tVar i)) (ha : DE X c W e me)
    (hbase : attributeBase o "append" X.env (eval o X.env) = eval o X.env := by rfl)
    (hfew : ((backTo pos (starEach [e] X.env)).all (fun x => !x.1) && (backToKw pos (keywordEach [] X.env)).all (fun x => x.1.isSome)
      && decide ([e].length + ([] : List Keyword).length + (if ([] : List Keyword).isEmpty then 0 else 1) < 30)) = true := by rfl)
    (hline : (apos.endLine == pos.line) = true := by rfl) (hs : starEach [e] X.env = (false, eval e X.env) :: starEach [] X.env := by rfl) (hplain : (backTo pos (starEach [] X.env)).any (·.1) = false := by rfl) :
    DE X c W (.Call (.Attribute o "append" apos) [e] [] pos) (mApp i me) :=
  pe_imp (pe_bm PySem.F.plainAttrs_list PySem.F.slot_list_append PySem.F.type_list_append mt_append ho (pa_cons ha pa_nil hs) hbase hfew hline hs hplain) fun σ H Q ⟨F, δ, τ, S, h⟩ => by
    unfold mApp at h
    split at h
    · rename_i ds0 q
      obtain ⟨a, vs, h1, h2, h3, h4⟩ := S.lstAt (getR_res q)
      refine ⟨_, h1, .inl ⟨rfl, vs, SqL.of h2⟩, F, δ, τ, S, ?_⟩
      rw [Er.post_bind] at h
      refine Er.post_mono h (fun d δ1 h w H1 F1 S1 => ?_) fun x δ' q => q
      split at h
      · rename_i ds q1
        split at h
        · rename_i hc
          obtain ⟨b, us, g1, g2, g3, g4⟩ := S1.lstAt (getR_res q1)
          rw [h1] at g1
          cases g1
          have rw' := S1.top.rep hc.1
          refine ⟨a, us, w, rfl, rfl, g2, by rw [g3.length]; exact hc.2, h _ _ F1 ((S1.drop.putR (r' := .lst (ds ++ [d])) (o := .lst (us ++ [w])) (getR_res q1) h1 g4 fun M m => ⟨us ++ [w], upd_same, (g3.mv m).append (.cons (rw'.mv m) .nil), g4⟩).push (.inr .non))⟩
        · exact h.elim
      · exact h.elim
    · exact h.elim
theorem de_popA (ho : PE X o (tVar i)) (ha : DE X c W e mk)
    (hbase : attributeBase o "pop" X.env (eval o X.env) = eval o X.env := by rfl)
    (hfew : ((backTo pos (starEach [e] X.env)).all (fun x => !x.1) && (backToKw pos (keywordEach [] X.env)).all (fun x => x.1.isSome)
      && decide ([e].length + ([] : List Keyword).length + (if ([] : List Keyword).isEmpty then 0 else 1) < 30)) = true := by rfl)
    (hline : (apos.endLine == pos.line) = true := by rfl) (hs : starEach [e] X.env = (false, eval e X.env) :: starEach [] X.env := by rfl) (hplain : (backTo pos (starEach [] X.env)).any (·.1) = false := by rfl) :
    DE X c W (.Call (.Attribute o "pop" apos) [e] [] pos) (mPopA i mk) :=
  pe_imp (pe_bm PySem.F.plainAttrs_list PySem.F.slot_list_pop PySem.F.type_list_pop mt_popAt ho (pa_cons ha pa_nil hs) hbase hfew hline hs hplain) fun σ H Q ⟨F, δ, τ, S, h⟩ => by
    unfold mPopA at h
    split at h
    · rename_i ds0 q
      obtain ⟨a, vs, h1, h2, h3, h4⟩ := S.lstAt (getR_res q)
      refine ⟨_, h1, .inl ⟨rfl, vs, SqL.of h2⟩, F, δ, τ, S, ?_⟩
      rw [Er.post_bind] at h
      refine Er.post_mono h (fun d δ1 h w H1 F1 S1 => ?_) fun x δ' q => q
      split at h
      · rename_i n ds q1
        have r := S1.top.rep rfl
        cases r
        split at h
        · rename_i hb
          split at h
          · rename_i j ej
            split at h
            · rename_i d ed
              obtain ⟨b, us, g1, g2, g3, g4⟩ := S1.lstAt (getR_res q1)
              rw [h1] at g1
              cases g1
              obtain ⟨u, e1, e2⟩ := g3.get ed
              have S2 := S1.drop.push (.inr e2)
              have S3 := S2.putR (r' := .lst (ds.eraseIdx j)) (o := .lst (us.eraseIdx j)) (getR_res q1) h1 g4 fun M m => ⟨us.eraseIdx j, upd_same, (g3.mv m).eraseIdx j, g4⟩
              exact ⟨a, us, n, j, u, rfl, rfl, g2, hb.1, hb.2, by rw [g3.length]; exact ej, e1, h _ _ F1 S3⟩
            · exact h.elim
          · exact h.elim
        · exact h.elim
      · exact h.elim
    · exact h.elim
theorem ds_setix (ho : PE X o (tVar i)) {ek : Expr} {p2 : Pos} (he : DE X c W e me) (hk : DE X c W ek mk)
    (ha : ∀ v, assign (.Subscript o ek p2) X.env v = (do
      let ov ← holding [v] (eval o X.env)
      let iv ← holding [v, ov] (eval ek X.env)
      standAt p2
      holding [v, ov, iv] (setItem ov iv v)
      release [v, ov, iv] []) := by intro _; rfl)
    (hs : swapsWithSole [.Subscript o ek p2] e pos.line X.env = pure false := by rfl) (hw : swappedStores [.Subscript o ek p2] e X.env = pure none := by rfl)
    (h1 : (assignEach [.Subscript o ek p2] X.env).map (·.2) = [assign (.Subscript o ek p2) X.env] := by rfl) : DS X c W (.Assign [.Subscript o ek p2] e pos) (mSetIx i me mk) :=
  ps_imp (ps_asg he (pg_sub ho hk set_list ha) hs hw h1) fun D σ H ⟨F, δ, τ, S, u, h⟩ => by
    unfold mSetIx at h
    rw [Er.post_out] at h
    refine ⟨F, δ, τ, S, Er.post_mono h (fun d δ1 h v H1 F1 S1 => ?_) fun _ _ q => q.kX⟩
    split at h
    · rename_i ds0 q
      obtain ⟨a, vs, h1, h2, h3, h4⟩ := S1.lstAt (getR_res q)
      rw [Er.post_out] at h
      refine ⟨_, h1, F1, δ1, _, S1, Er.post_mono h (fun k δ2 h w H2 F2 S2 => ?_) fun _ _ q cls dx H' F' S' ie => q.kX cls dx H' F' S'.drop ie⟩
      split at h
      · rename_i n ds q1
        have r := S2.top.rep rfl
        cases r
        split at h
        · rename_i j ej
          split at h
          · rename_i hu
            obtain ⟨b, us, g1, g2, g3, g4⟩ := S2.lstAt (getR_res q1)
            rw [h1] at g1
            cases g1
            have rv := S2.drop.top.rep hu
            exact ⟨a, us, n, j, rfl, rfl, g2, by rw [g3.length]; exact ej, h _ _ F2 (S2.drop.drop.putR (r' := .lst (ds.set j d)) (o := .lst (us.set j v)) (getR_res q1) h1 g4 fun M m => ⟨us.set j v, upd_same, (g3.mv m).set (rv.mv m) j, g4⟩)⟩
          · exact h.elim
        · exact h.elim
      · exact h.elim
    · exact h.elim

/-! ### a, b = x, y -/
def mPar (is : List Nat) (ms : ML) : MS := fun δ => (ms δ).out fun ds δ1 => match gTl is ds δ1 with
  | some δ2 => .nx δ2
  | none => .stuck
theorem gTl_uns : ∀ {is : List Nat} {ds : List DL.D} {δ δ' : Dl}, gTl is ds δ = some δ' → ds.all unslot1 = true := by
  intro is
  induction is with
  | nil => intro ds δ δ' q; cases ds with | nil => rfl | cons _ _ => cases q
  | cons i is ih =>
    intro ds δ δ' q
    cases ds with
    | nil => cases q
    | cons d ds =>
      have q : (gN i d δ).bind (gTl is ds) = some δ' := q
      cases e : gN i d δ with
      | none => rw [e] at q; cases q
      | some δ3 =>
        rw [e] at q
        rw [List.all_cons, ih q, Bool.and_true]
        unfold gN at e
        split at e
        · rename_i h; exact h.2
        · cases e
theorem ds_par {i j : Nat} {x y : Str} {a b : Expr} {ms : ML} {px py pt : Pos} {kt k2 pt2} (hc : X.calm = true) (hN : X.N.Nodup) (hi : X.N[i]? = some x) (hj : X.N[j]? = some y) (hij : i ≠ j)
    (hx : X.env.scope.names.lookup x = some .local) (hy : X.env.scope.names.lookup y = some .local) (ha : DA X c W [a, b] ms)
    (hw : swappedStores [.Tuple [.Name x px, .Name y py] kt pt] (.Tuple [a, b] k2 pt2) X.env = pure (some [x, y]) := by rfl)
    (hs : swapsWithSole [.Tuple [.Name x px, .Name y py] kt pt] (.Tuple [a, b] k2 pt2) pos.line X.env = pure false := by rfl) :
    DS X c W (.Assign [.Tuple [.Name x px, .Name y py] kt pt] (.Tuple [a, b] k2 pt2) pos) (mPar [i, j] ms) :=
  ps_imp (ps_par hc hN hi hj hij hx hy ha hw hs) fun D σ H ⟨F, δ, τ, S, u, h⟩ => by
    unfold mPar at h
    rw [Er.post_out] at h
    refine ⟨F, δ, τ, S, Er.post_mono h (fun ds δ1 h vs H1 F1 hl S1 => ?_) fun _ _ q => q.kX⟩
    split at h
    · rename_i δ2 q
      have rl := repL_of hl S1 (gTl_uns q)
      have G := gTl_step (Q := fun σ' H' => D.nx σ' H') S1.pops rl (fun p hp i _ => uns_nslot u p hp) q fun σ' F' S' _ => h σ' H1 F' S'
      obtain ⟨v, r, rfl, w, r2, rfl, rfl, k⟩ := G
      exact ⟨v, w, rfl, k⟩
    · exact h.elim
theorem ds_par3 {i j l : Nat} {x y z : Str} {a b d : Expr} {ms : ML} {px py pz pt : Pos} {kt k2 pt2} (hc : X.calm = true) (hN : X.N.Nodup) (hi : X.N[i]? = some x) (hj : X.N[j]? = some y) (hl : X.N[l]? = some z) (hij : i ≠ j) (hil : i ≠ l) (hjl : j ≠ l)
    (hx : X.env.scope.names.lookup x = some .local) (hy : X.env.scope.names.lookup y = some .local) (hz : X.env.scope.names.lookup z = some .local) (ha : DA X c W [a, b, d] ms)
    (hw : swappedStores [.Tuple [.Name x px, .Name y py, .Name z pz] kt pt] (.Tuple [a, b, d] k2 pt2) X.env = pure (some [x, y, z]) := by rfl)
    (hs : swapsWithSole [.Tuple [.Name x px, .Name y py, .Name z pz] kt pt] (.Tuple [a, b, d] k2 pt2) pos.line X.env = pure false := by rfl) :
    DS X c W (.Assign [.Tuple [.Name x px, .Name y py, .Name z pz] kt pt] (.Tuple [a, b, d] k2 pt2) pos) (mPar [i, j, l] ms) :=
  ps_imp (ps_par3 hc hN hi hj hl hij hil hjl hx hy hz ha hw hs) fun D σ H ⟨F, δ, τ, S, u, h⟩ => by
    unfold mPar at h
    rw [Er.post_out] at h
    refine ⟨F, δ, τ, S, Er.post_mono h (fun ds δ1 h vs H1 F1 hl S1 => ?_) fun _ _ q => q.kX⟩
    split at h
    · rename_i δ2 q
      have rl := repL_of hl S1 (gTl_uns q)
      have G := gTl_step (Q := fun σ' H' => D.nx σ' H') S1.pops rl (fun p hp i _ => uns_nslot u p hp) q fun σ' F' S' _ => h σ' H1 F' S'
      obtain ⟨v, r, rfl, w, r2, rfl, v3, r3, rfl, rfl, k⟩ := G
      exact ⟨v, w, v3, rfl, k⟩
    · exact h.elim
end
end DL
set_option Elab.async false
set_option linter.all false
set_option maxRecDepth 100000
set_option autoImplicit false
/-! DL12: dicts. -/
namespace DL
open PySem PySem.Spec PyProof.Rows L2
section
variable {K : PySem.W.Frag} {c : Ctx} {F : Nat → Addr → Prop} {σ : L2.St} {δ : Dl} {τ : List (V × D)} {H : Hp}
theorem SRF.lendR {a : Addr} {r0 : R} (S : SRF K c F (σ ++ [some (.ref a)]) (δ ++ [.own r0]) τ H) (h4 : ∀ b, F δ.length b ↔ b = a) (hτ : ∀ p ∈ τ, p.2 ≠ .slot δ.length) :
    SRF K (lendC c (fdel F δ.length) H a) (fdel F δ.length) σ δ τ H := by
  have l0 : σ.length = δ.length := by have := S.len; simpa using this
  have P := S.pop (fun r h => by cases h) hτ
  have Fa : F δ.length a := (h4 a).mpr rfl
  have km : Mv (c.M F) H ((lendC c (fdel F δ.length) H a).M (fdel F δ.length)) H := fun b o e n => ⟨e, fun q => by
    rcases q with (q | q) | ⟨j, _, q⟩
    · exact n (.inl q)
    · exact n (.inr ⟨_, by rw [q]; exact Fa⟩)
    · exact n (.inr ⟨j, q⟩)⟩
  refine ⟨P.len, fun j d e => ?_, fun j r e => ?_, P.off, P.dis, fun j b h q => ?_, fun j b h => .inr ⟨j, h⟩, fun b h => ?_, fun b o e _ => e, P.bor, fun p hp => ?_⟩
  · have hj : j < δ.length := (List.getElem?_eq_some_iff.mp e).1
    obtain ⟨v, q1, q2⟩ := S.val j d (by rw [List.getElem?_append_left hj]; exact e)
    rw [List.getElem?_append_left (by rw [l0]; exact hj)] at q1
    exact ⟨v, q1, q2.mv km⟩
  · obtain ⟨b, q1, q2⟩ := S.res j r (isRes_app.mpr (.inl e))
    rw [List.getElem?_append_left (by rw [l0]; exact e.lt)] at q1
    refine ⟨b, q1, ?_⟩
    have q : (fdel F δ.length) j = F j := by
      funext b
      exact propext ⟨fun h => h.2, fun h => ⟨Nat.ne_of_lt e.lt, h⟩⟩
    rw [q]
    exact q2.mv km fun _ _ => rfl
  · rcases q with q | q
    · exact S.out j b h.2 q
    · rw [q] at h
      exact h.1 (S.dis j _ a h.2 Fa)
  · rcases h with h | h
    · refine ⟨S.mdom (.inl h), fun ⟨j, q⟩ => S.out j b q.2 h⟩
    · subst h
      exact ⟨S.dom _ _ Fa, fun ⟨j, q⟩ => q.1 (S.dis j _ b q.2 Fa)⟩
  · refine ((S.tmp p hp).mv km).st fun j r e q => ?_
    rcases isRes_app.mp q with q | ⟨q, _⟩
    · exact ⟨(List.getElem?_append_left (by rw [l0]; exact q.lt)).symm, r, q⟩
    · exact (hτ p hp (by rw [e, q])).elim

theorem SRF.unlendR {a : Addr} {r0 r2 : R} {o2 : HO} {F2 : Nat → Addr → Prop} {σ2 : L2.St} {δ2 : Dl} {τ2 : List (V × D)} {H2 : Hp} (S : SRF K c F (σ ++ [some (.ref a)]) (δ ++ [.own r0]) τ H) (h4 : ∀ b, F δ.length b ↔ b = a)
    (S2 : SRF K (lendC c (fdel F δ.length) H a) F2 σ2 δ2 τ2 H2) (hl : δ2.length = δ.length) (r : ∀ M, Mv ((lendC c (fdel F δ.length) H a).M F2) H2 M (upd H2 a o2) → RAt K M (upd H2 a o2) a r2 fun b => b = a) :
    SRF K c (fput F2 δ2.length fun b => b = a) (σ2 ++ [some (.ref a)]) (δ2 ++ [.own r2]) τ2 (upd H2 a o2) := by
  have l0 : σ.length = δ.length := by have := S.len; simpa using this
  have Fa : F δ.length a := (h4 a).mpr rfl
  have na : ∀ j, ¬ F2 j a := fun j h => S2.out j a h (.inr rfl)
  have km : Mv ((lendC c (fdel F δ.length) H a).M F2) H2 (c.M (fput F2 δ2.length fun b => b = a)) (upd H2 a o2) := fun b o e n => by
    have nb : b ≠ a := fun q => n (.inl (.inr q))
    refine ⟨by rw [upd_ne nb]; exact e, fun q => ?_⟩
    rcases q with q | ⟨j, ⟨_, q⟩ | ⟨_, q⟩⟩
    · exact n (.inl (.inl q))
    · exact nb q
    · exact n (.inr ⟨j, q⟩)
  have eF : ∀ j, j ≠ δ2.length → (fput F2 δ2.length fun b => b = a) j = F2 j := fun j hj => by
    funext b
    refine propext ⟨fun h => ?_, fun h => .inr ⟨hj, h⟩⟩
    rcases h with ⟨h, _⟩ | ⟨_, h⟩
    · exact (hj h).elim
    · exact h
  refine ⟨by simp [S2.len], fun j d e => ?_, fun j r' e => ?_, fun j b h => ?_, fun j k b h h' => ?_, fun j b h => ?_, fun j b h => ?_, S.gdom, fun b u e n => ?_, fun q hq => ?_, fun q hq => ?_⟩
  · by_cases hj : j < δ2.length
    · rw [List.getElem?_append_left hj] at e
      obtain ⟨v, h1, h2⟩ := S2.val j d e
      exact ⟨v, by rw [List.getElem?_append_left (by rw [S2.len]; exact hj)]; exact h1, h2.mv km⟩
    · rw [List.getElem?_append_right (by omega)] at e
      cases h : j - δ2.length with
      | zero => rw [h] at e; cases e
      | succ n => rw [h] at e; cases e
  · rcases isRes_app.mp e with h | ⟨h, h'⟩
    · obtain ⟨b, q1, q2⟩ := S2.res j r' h
      refine ⟨b, by rw [List.getElem?_append_left (by rw [S2.len]; exact h.lt)]; exact q1, ?_⟩
      rw [eF j (Nat.ne_of_lt h.lt)]
      exact q2.mv km fun b hb => upd_ne fun q => na j (by rw [← q]; exact hb)
    · subst h
      rcases h' with h' | h' <;> cases h'
      refine ⟨a, by rw [List.getElem?_append_right (by rw [S2.len]; exact Nat.le_refl _), S2.len]; simp, ?_⟩
      have q : (fput F2 δ2.length fun b => b = a) δ2.length = fun b => b = a := by
        funext b
        refine propext ⟨fun h => ?_, fun h => .inl ⟨rfl, h⟩⟩
        rcases h with ⟨_, h⟩ | ⟨h, _⟩
        · exact h
        · exact (h rfl).elim
      rw [q]
      exact r _ km
  · rcases h with ⟨h, _⟩ | ⟨_, h⟩
    · exact ⟨_, isRes_app.mpr (.inr ⟨h, .inl rfl⟩)⟩
    · obtain ⟨r', q⟩ := S2.off j b h
      exact ⟨r', isRes_app.mpr (.inl q)⟩
  · rcases h with ⟨h, q1⟩ | ⟨_, h⟩
    · rcases h' with ⟨h', _⟩ | ⟨_, h'⟩
      · rw [h, h']
      · exact (na k (by rw [← q1]; exact h')).elim
    · rcases h' with ⟨h', q1⟩ | ⟨_, h'⟩
      · exact (na j (by rw [← q1]; exact h)).elim
      · exact S2.dis j k b h h'
  · rcases h with ⟨_, q1⟩ | ⟨_, h⟩
    · rw [q1]; exact S.out _ _ Fa
    · exact fun q => S2.out j b h (.inl q)
  · rcases h with ⟨_, q1⟩ | ⟨_, h⟩
    · rw [q1]; exact S.new _ _ Fa
    · rcases S2.new j b h with q | ⟨k, q⟩
      · have q : H b = none := q
        cases e : c.H0 b with
        | none => exact .inl rfl
        | some u =>
          refine .inr ?_
          apply Classical.byContradiction
          intro n
          have := S.keep b u e n
          rw [q] at this
          cases this
      · exact S.new k b q.2
  · have nb : b ≠ a := fun q => by
      rcases S.new _ _ Fa with z | z
      · rw [← q, e] at z; cases z
      · exact n (by rw [q]; exact z)
    rw [upd_ne nb]
    refine S2.keep b u (S.keep b u e n) fun ⟨k, q⟩ => ?_
    rcases S.new k b q.2 with z | z
    · rw [e] at z; cases z
    · exact n z
  · obtain ⟨h1, r', h2⟩ := S2.bor q hq
    have l : q.1 < δ2.length := (List.getElem?_eq_some_iff.mp h2).1
    exact ⟨by rw [List.getElem?_append_left (by rw [S2.len]; exact l)]; exact h1, r', by rw [List.getElem?_append_left l]; exact h2⟩
  · refine ((S2.tmp q hq).mv km).st fun j r' e z => ?_
    exact ⟨List.getElem?_append_left (by rw [S2.len]; exact z.lt), r', isRes_app.mpr (.inl z)⟩

end

/-! ### keys and values -/
def keyD : D → Option Key
  | .int i => some (.inl i)
  | .str x => some (.inr x)
  | _ => none
def getK (k : Key) : List (Key × D) → Option D
  | [] => none
  | p :: r => if p.1 = k then some p.2 else getK k r
def putKD (kvs : List (Key × D)) (k : Key) (d : D) : List (Key × D) :=
  if (kvs.any fun kv => decide (kv.1 = k)) = true then kvs.map (fun kv => if kv.1 = k then (kv.1, d) else kv) else kvs ++ [(k, d)]
def mergeD (kvs more : List (Key × D)) : List (Key × D) := more.foldl (fun acc kv => putKD acc kv.1 kv.2) kvs
section
variable {K : PySem.W.Frag} {M : Addr → Prop} {H : Hp}
theorem key_of {v : V} {d : D} {k : Key} (h : RepR K M H v d) (e : keyD d = some k) : v = kV k := by
  cases d <;> first | (cases e; done) | skip
  · rw [h.intE]; cases e; rfl
  · rw [h.strE]; cases e; rfl
theorem repK_get {k : Key} : ∀ {vs : List (Key × V)} {ds : List (Key × D)}, RepK K M H vs ds → (getK k ds = none ∧ valV vs k = none) ∨ ∃ d v, getK k ds = some d ∧ valV vs k = some v ∧ Rep K M H v d
  | _, _, .nil => .inl ⟨rfl, rfl⟩
  | _, _, @RepK.cons _ _ _ k0 v d vs ds r l => by
    by_cases e : k0 = k
    · right
      refine ⟨d, v, ?_, ?_, r⟩
      · show (if k0 = k then some d else getK k ds) = some d
        rw [if_pos e]
      · exact valV_pos e
    · have h1 : getK k ((k0, d) :: ds) = getK k ds := by
        show (if k0 = k then some d else getK k ds) = _
        rw [if_neg e]
      have h2 : valV ((k0, v) :: vs) k = valV vs k := valV_neg e
      rw [h1, h2]
      exact repK_get l
theorem repK_any {k : Key} : ∀ {vs : List (Key × V)} {ds : List (Key × D)}, RepK K M H vs ds → (vs.any fun kv => decide (kv.1 = k)) = (ds.any fun kv => decide (kv.1 = k))
  | _, _, .nil => rfl
  | _, _, .cons r l => by simp [repK_any l]
theorem repK_app : ∀ {vs ws : List (Key × V)} {ds es : List (Key × D)}, RepK K M H vs ds → RepK K M H ws es → RepK K M H (vs ++ ws) (ds ++ es)
  | _, _, _, _, .nil, s => s
  | _, _, _, _, .cons r l, s => .cons r (repK_app l s)
theorem repK_map {k : Key} {v : V} {d : D} (r : Rep K M H v d) : ∀ {vs : List (Key × V)} {ds : List (Key × D)}, RepK K M H vs ds → RepK K M H (vs.map fun kv => if kv.1 = k then (kv.1, v) else kv) (ds.map fun kv => if kv.1 = k then (kv.1, d) else kv)
  | _, _, .nil => .nil
  | _, _, @RepK.cons _ _ _ k0 v0 d0 vs ds r0 l => by
    simp only [List.map_cons]
    by_cases e : k0 = k
    · rw [if_pos e, if_pos e]
      exact .cons r (repK_map r l)
    · rw [if_neg e, if_neg e]
      exact .cons r0 (repK_map r l)
theorem repK_put {k : Key} {v : V} {d : D} (r : Rep K M H v d) {vs : List (Key × V)} {ds : List (Key × D)} (l : RepK K M H vs ds) : RepK K M H (putK vs k v) (putKD ds k d) := by
  unfold putK putKD
  rw [repK_any l]
  split
  · exact repK_map r l
  · exact repK_app l (.cons r .nil)
theorem repK_merge : ∀ {more : List (Key × V)} {mored : List (Key × D)}, RepK K M H more mored → ∀ {vs : List (Key × V)} {ds : List (Key × D)}, RepK K M H vs ds → RepK K M H (mergeK vs more) (mergeD ds mored)
  | _, _, .nil, _, _, l => l
  | _, _, .cons r0 l, _, _, l0 => repK_merge l (repK_put r0 l0)
end

/-! ### displays -/
def mPairs : List (ME × ME) → Dl → Er (List (Key × D))
  | [], δ => .ok [] δ
  | (mk, mv) :: r, δ => (mk δ).bindN fun k δ1 => match keyD k with
    | none => .stuck
    | some kk => (mv δ1).bindN fun d δ2 => if unslot1 d = true then (mPairs r δ2).bindN fun l δ3 => .ok ((kk, d) :: l) δ3 else .stuck
def mDisp (ps : List (ME × ME)) : Dl → Er R := fun δ => (mPairs ps δ).bindN fun l δ1 => if l.length ≤ 15 ∧ δ1.length = δ.length then .ok (.dic (mergeD [] l)) δ1 else .stuck
def trsX (K : PySem.W.Frag) (mg : Str → Option Value) (ps : List (ME × ME)) : List (TE × TE) := ps.map fun p => (tDx K mg p.1, tDx K mg p.2)
def zipK : List (Key × V) → List (Key × D) → List (V × D)
  | (_, v) :: vs, (_, d) :: ds => (v, d) :: zipK vs ds
  | _, _ => []
section
variable {K : PySem.W.Frag} {mg : Str → Option Value} {c : Ctx}
theorem pairs_imp {σ : L2.St} : ∀ {ps : List (ME × ME)} {F : Nat → Addr → Prop} {δ : Dl} {τ : List (V × D)} {H : Hp} {Q : List (V × V) → Hp → Prop}, SRF K c F σ δ τ H →
    (mPairs ps δ).post (fun l δ' => ∀ (kvs : List (Key × V)) H' F', δ'.length = δ.length → kvs.map (·.1) = l.map (·.1) → SRF K c F' σ δ' (zipK kvs l ++ τ) H' → (∀ p ∈ l, unslot1 p.2 = true) → Q (kvs.map fun kv => (kV kv.1, kv.2)) H') (fun _ _ => False) → tPairs (trsX K mg ps) σ H Q
  | [], F, δ, τ, H, Q, S, h => h [] H F rfl rfl S fun p hp => by cases hp
  | (mk, mv) :: r, F, δ, τ, H, Q, S, h => by
    unfold mPairs at h
    have h := Er.post_bindN.mp h
    refine ⟨c, F, δ, τ, S, kX0 (Er.post_mono h (fun k δ1 h v H1 F1 S1 => ?_) fun _ _ q => q)⟩
    cases ek : keyD k with
    | none => simp only [ek] at h; exact h.elim
    | some kk =>
      simp only [ek] at h
      have h := Er.post_bindN.mp h
      have uk : unslot1 k = true := by cases k <;> first | rfl | cases ek
      have hv : v = kV kk := key_of (.of (S1.top.rep uk)) ek
      subst hv
      refine ⟨c, F1, δ1, τ, S1.drop, kX0 (Er.post_mono h (fun d δ2 h w H2 F2 S2 => ?_) fun _ _ q => q)⟩
      split at h
      · rename_i hu
        have h := Er.post_bindN.mp h
        have l1 := S.len
        have l2 := S2.len
        refine pairs_imp (ps := r) S2 (Er.post_mono h (fun l δ3 h kvs H3 F3 hl hk S3 hun => ?_) fun _ _ q => q)
        refine h ((kk, w) :: kvs) H3 F3 (by omega) (by simp [hk]) (S3.sub fun p hp => ?_) fun p hp => ?_
        · have hp : p ∈ (w, d) :: (zipK kvs l ++ τ) := hp
          rcases List.mem_cons.mp hp with e | hp
          · exact List.mem_append_right _ (by rw [e]; exact List.mem_cons_self)
          · rcases List.mem_append.mp hp with hp | hp
            · exact List.mem_append_left _ hp
            · exact List.mem_append_right _ (List.mem_cons_of_mem _ hp)
        · rcases List.mem_cons.mp hp with e | hp
          · rw [e]; exact hu
          · exact hun p hp
      · exact h.elim
theorem repK_of {F : Nat → Addr → Prop} {σ : L2.St} {δ : Dl} {τ : List (V × D)} {H : Hp} : ∀ {kvs : List (Key × V)} {l : List (Key × D)}, kvs.map (·.1) = l.map (·.1) → SRF K c F σ δ (zipK kvs l ++ τ) H → (∀ p ∈ l, unslot1 p.2 = true) → RepK K (c.M F) H kvs l
  | [], [], _, _, _ => .nil
  | [], _ :: _, h, _, _ => by cases h
  | _ :: _, [], h, _, _ => by cases h
  | (k, v) :: kvs, (k2, d) :: l, h, S, n => by
    simp only [List.map_cons, List.cons.injEq] at h
    obtain ⟨rfl, h⟩ := h
    have S' : SRF K c F σ δ ((v, d) :: (zipK kvs l ++ τ)) H := S
    exact .cons (S'.top.rep (n _ List.mem_cons_self)) (repK_of h S'.drop fun p hp => n p (List.mem_cons_of_mem _ hp))
end
section
variable {X : Cx} {c : Ctx} {W : WX} {o e f : Expr} {ma mb md : ME} {pos apos : Pos}
inductive DPs (X : Cx) (pos : Pos) : List (Option Expr) → List Expr → List (ME × ME) → Prop
  | nil : DPs X pos [] [] []
  | cons {k v : Expr} {ks : List (Option Expr)} {vs : List Expr} {mk mv : ME} {r : List (ME × ME)} (hk : ∀ c, DE X c W0 k mk) (hv : ∀ c, DE X c W0 v mv) (h : DPs X pos ks vs r) : DPs X pos (some k :: ks) (v :: vs) ((mk, mv) :: r)
theorem DPs.pps {keys : List (Option Expr)} {values : List Expr} {ps : List (ME × ME)} (h : DPs X pos keys values ps) : PPs X pos keys values (trsX X.K X.mg ps) := by
  induction h with
  | nil => exact pps_nil
  | cons hk hv h ih => exact pps_cons (dx_of hk) (dx_of hv) ih
theorem df_disp {keys : List (Option Expr)} {values : List Expr} {ps : List (ME × ME)} (h : DPs X pos keys values ps) (hall : keys.all (·.isSome) = true := by rfl) (hl : keys.length = values.length := by rfl) (h0 : keys ≠ [] := by exact fun z => nomatch z)
    (h15 : keys.length ≤ 15 := by decide) : DF X c W (.Dict keys values pos) (mDisp ps) :=
  pe_imp (pe_disp h.pps hall hl h0 h15) fun σ H Q ⟨F, δ, τ, S, h⟩ p hp => by
    unfold mDisp at h
    have S1 := S.pushOwn (r := .dic []) (o := .dK []) hp fun M m => ⟨[], upd_same, .nil, fun _ => Iff.rfl⟩
    have h4 : ∀ b, (fput F δ.length fun b => b = p) δ.length b ↔ b = p := fun b => by
      constructor
      · intro h
        rcases h with ⟨_, h⟩ | ⟨h, _⟩
        · exact h
        · exact (h rfl).elim
      · intro h
        exact .inl ⟨rfl, h⟩
    have S2 := S1.lendR h4 (S.nslot (Nat.le_refl _))
    have h := Er.post_bindN.mp h
    refine pairs_imp S2 (Er.post_mono h (fun l δ1 h kvs H3 F3 hl hk S3 hun => ?_) fun _ _ q => q)
    split at h
    · rename_i hc
      have hD : H3 p = some (.dK []) := S3.keep p _ upd_same fun ⟨k, q⟩ => q.1 (S1.dis k _ p q.2 ((h4 p).mpr rfl))
      have rk := repK_of hk S3 hun
      have hlen : kvs.length = l.length := by
        have := congrArg List.length hk
        simpa using this
      have S4 := S1.unlendR (r2 := .dic (mergeD [] l)) (o2 := .dK (mergeK [] kvs)) h4 S3 hc.2 fun M m => ⟨_, upd_same, repK_merge (rk.mv m) .nil, fun _ => Iff.rfl⟩
      exact ⟨hD, kvs, rfl, by rw [hlen]; exact hc.1, h p _ _ hc.2 (S4.sub fun q hq => List.mem_append_right _ hq)⟩
    · exact h.elim
end
end DL
set_option Elab.async false
set_option linter.all false
set_option maxRecDepth 100000
set_option autoImplicit false
/-! DL13: dicts read and changed; what serves lists and dicts alike. -/
namespace DL
open PySem PySem.Spec PyProof.Rows L2
theorem pe_or {X : Cx} {e : Expr} {t t' : TE} (h : PE X e t) (h' : PE X e t') : PE X e (fun σ H Q => t σ H Q ∨ t' σ H Q) := ⟨fun pins s σ H Q I q => by
  rcases q with q | q
  · exact h.run pins s σ H Q I q
  · exact h'.run pins s σ H Q I q⟩
theorem m2_split {K : PySem.W.Frag} {mg : Str → Option Value} {c : Ctx} {W : WX} {ma mb : ME} {p : D → D → Bool} {f g h : D → D → Option D} (hf : ∀ a b, f a b = if p a b = true then g a b else h a b) {σ : L2.St} {H : Hp} {Q : VK}
    (q : tD K mg c W (m2 f ma mb) σ H Q) : tD K mg c W (m2 g ma mb) σ H Q ∨ tD K mg c W (m2 h ma mb) σ H Q := by
  obtain ⟨F, δ, τ, S, q⟩ := q
  unfold m2 at q
  cases ea : ma δ with
  | stuck => rw [ea] at q; exact q.elim
  | exc x δ1 =>
    rw [ea] at q
    left
    refine ⟨F, δ, τ, S, ?_⟩
    unfold m2
    rw [ea]
    exact q
  | ok a δ1 =>
    rw [ea] at q
    have q : ((mb δ1).bind fun b δ2 => optE (f (deref δ2 a) (deref δ2 b)) δ2).post _ _ := q
    cases eb : mb δ1 with
    | stuck => rw [eb] at q; exact q.elim
    | exc x δ2 =>
      rw [eb] at q
      left
      refine ⟨F, δ, τ, S, ?_⟩
      unfold m2
      rw [ea]
      show ((mb δ1).bind _).post _ _
      rw [eb]
      exact q
    | ok b δ2 =>
      rw [eb] at q
      have q : (optE (f (deref δ2 a) (deref δ2 b)) δ2).post _ _ := q
      rw [hf] at q
      by_cases hp : p (deref δ2 a) (deref δ2 b) = true
      · rw [if_pos hp] at q
        left
        refine ⟨F, δ, τ, S, ?_⟩
        unfold m2
        rw [ea]
        show ((mb δ1).bind _).post _ _
        rw [eb]
        exact q
      · rw [if_neg hp] at q
        right
        refine ⟨F, δ, τ, S, ?_⟩
        unfold m2
        rw [ea]
        show ((mb δ1).bind _).post _ _
        rw [eb]
        exact q
def isDic : D → Bool
  | .dic _ => true
  | _ => false
def dgetD : D → D → Option D
  | .dic kvs, k => (keyD k).bind fun kk => getK kk kvs
  | _, _ => none
def dinB : D → D → Option Bool
  | k, .dic kvs => (keyD k).map fun kk => (getK kk kvs).isSome
  | _, _ => none
def dinD (k d : D) : Option D := (dinB k d).map .bl
def dninD (k d : D) : Option D := (dinB k d).map fun b => .bl (!b)
def ixA (a b : D) : Option D := if isDic a = true then dgetD a b else ixD a b
def inA (a b : D) : Option D := if isDic b = true then dinD a b else inD a b
def ninA (a b : D) : Option D := if isDic b = true then dninD a b else ninD a b
section
variable {X : Cx} {c : Ctx} {W : WX} {a b o e f : Expr} {ma mb md mf : ME} {pos apos : Pos}
theorem dget_of {F : Nat → Addr → Prop} {H : Hp} {v w : V} {kvs : List (Key × D)} {k : D} {kk : Key} (hv : RepR X.K (c.M F) H v (.dic kvs)) (hw : RepR X.K (c.M F) H w k) (e : keyD k = some kk) :
    ∃ p, v = .ref p ∧ ((getK kk kvs = none ∧ DGet H p w none) ∨ ∃ d u, getK kk kvs = some d ∧ DGet H p w (some u) ∧ Rep X.K (c.M F) H u d) := by
  obtain ⟨p, ks, rfl, hs, l⟩ := hv.dicE
  have := key_of hw e
  subst this
  refine ⟨p, rfl, ?_⟩
  have g := DGet.k (k := kk) hs
  rcases repK_get (k := kk) l with ⟨h1, h2⟩ | ⟨d, u, h1, h2, h3⟩
  · left
    rw [h2] at g
    exact ⟨h1, g⟩
  · right
    rw [h2] at g
    exact ⟨d, u, h1, g, h3⟩
theorem de_dget (hu : X.A.units + 1 < cLine) (ha : DE X c W a ma) (hb : DE X c W b mb) (hs : ∀ ov iv, subscripted b false ov iv = operate [ov, iv] (getItem ov iv)) : DE X c W (.Subscript a b pos) (m2 dgetD ma mb) :=
  pe_imp (pe_dget hu ha hb hs) (m2_imp (r := fun x y H Q => ∃ p v, x = .ref p ∧ DGet H p y (some v) ∧ Q v H) (fun F σ δ τ H v a w b d Q S ra rb e k => by
    cases a <;> first | (cases e; done) | skip
    rename_i kvs
    have e : (keyD b).bind (fun kk => getK kk kvs) = some d := e
    cases q : keyD b with
    | none => rw [q] at e; cases e
    | some kk =>
      rw [q] at e
      have e : getK kk kvs = some d := e
      obtain ⟨p, rfl, h⟩ := dget_of ra rb q
      rcases h with ⟨h, _⟩ | ⟨d', u, h1, h2, h3⟩
      · rw [h] at e; cases e
      · rw [h1] at e; cases e
        exact ⟨p, u, rfl, h2, k _ H S h3⟩) ⟨fun _ b => rfl, fun _ a => by cases a <;> rfl⟩)
theorem de_ixA (hu : X.A.units + 1 < cLine) (ha : DE X c W a ma) (hb : DE X c W b mb) (hs : ∀ ov iv, subscripted b false ov iv = operate [ov, iv] (getItem ov iv) := by intro _ _; rfl) : DE X c W (.Subscript a b pos) (m2 ixA ma mb) :=
  pe_imp (pe_or (de_dget hu ha hb hs) (de_ix ha hb hs)) fun σ H Q h => m2_split (p := fun a _ => isDic a) (fun _ _ => rfl) h
theorem pc_cmp {op : CmpOp} {t : TE} (h : PC X op a b t) (hm : behindInMarks op b = false) : PE X (.Compare a [op] [b] pos) t := pe_cmp h hm
theorem de_din (hu : X.A.units + 1 < cLine) (ha : DE X c W a ma) (hb : DE X c W b mb) (hm : behindInMarks .In b = false := by with_unfolding_all rfl) : DE X c W (.Compare a [.In] [b] pos) (m2 dinD ma mb) :=
  pe_imp (pe_cmp (pc_din hu ha hb) hm) (m2_imp (r := fun y x H Q => ∃ p o, x = .ref p ∧ DGet H p y o ∧ Q (.bl o.isSome) H) (fun F σ δ τ H v a w b d Q S ra rb e k => by
    unfold dinD dinB at e
    split at e
    · rename_i kvs
      cases q : keyD a with
      | none => rw [q] at e; cases e
      | some kk =>
        rw [q] at e
        simp only [Option.map_some, Option.some.injEq] at e
        subst e
        obtain ⟨p, rfl, h⟩ := dget_of rb ra q
        rcases h with ⟨h, g⟩ | ⟨d', u, h1, g, h3⟩
        · rw [h] at k; exact ⟨p, _, rfl, g, k _ H S (.bl _)⟩
        · rw [h1] at k; exact ⟨p, _, rfl, g, k _ H S (.bl _)⟩
    · cases e) ⟨fun _ b => by cases b <;> rfl, fun _ a => rfl⟩)
theorem de_dnin (hu : X.A.units + 1 < cLine) (ha : DE X c W a ma) (hb : DE X c W b mb) (hm : behindInMarks .NotIn b = false := by with_unfolding_all rfl) : DE X c W (.Compare a [.NotIn] [b] pos) (m2 dninD ma mb) :=
  pe_imp (pe_cmp (pc_dnotin hu ha hb) hm) (m2_imp (r := fun y x H Q => ∃ p o, x = .ref p ∧ DGet H p y o ∧ Q (.bl (!o.isSome)) H) (fun F σ δ τ H v a w b d Q S ra rb e k => by
    unfold dninD dinB at e
    split at e
    · rename_i kvs
      cases q : keyD a with
      | none => rw [q] at e; cases e
      | some kk =>
        rw [q] at e
        simp only [Option.map_some, Option.some.injEq] at e
        subst e
        obtain ⟨p, rfl, h⟩ := dget_of rb ra q
        rcases h with ⟨h, g⟩ | ⟨d', u, h1, g, h3⟩
        · rw [h] at k; exact ⟨p, _, rfl, g, k _ H S (.bl _)⟩
        · rw [h1] at k; exact ⟨p, _, rfl, g, k _ H S (.bl _)⟩
    · cases e) ⟨fun _ b => by cases b <;> rfl, fun _ a => rfl⟩)
theorem de_inA (hu : X.A.units + 65 < cLine) (ha : DE X c W a ma) (hb : DE X c W b mb) (hm : behindInMarks .In b = false := by with_unfolding_all rfl) : DE X c W (.Compare a [.In] [b] pos) (m2 inA ma mb) :=
  pe_imp (pe_or (de_din (by omega) ha hb hm) (de_in hu ha hb hm)) fun σ H Q h => m2_split (p := fun _ b => isDic b) (fun _ _ => rfl) h
theorem de_ninA (hu : X.A.units + 65 < cLine) (ha : DE X c W a ma) (hb : DE X c W b mb) (hm : behindInMarks .NotIn b = false := by with_unfolding_all rfl) : DE X c W (.Compare a [.NotIn] [b] pos) (m2 ninA ma mb) :=
  pe_imp (pe_or (de_dnin (by omega) ha hb hm) (de_nin hu ha hb hm)) fun σ H Q h => m2_split (p := fun _ b => isDic b) (fun _ _ => rfl) h
/-- d.get(k, x) -/
def mGet2 (md mk mx : ME) : ME := fun δ => (md δ).bind fun a δ0 => match deref δ0 a with
  | .dic _ => (mk δ0).bind fun k δ1 => (mx δ1).bind fun x δ2 => match deref δ2 a, keyD k with
    | .dic kvs, some kk => if unslot1 x = true then .ok ((getK kk kvs).getD x) δ2 else .stuck
    | _, _ => .stuck
  | _ => .stuck
def mGet1 (md mk : ME) : ME := fun δ => (md δ).bind fun a δ0 => match deref δ0 a with
  | .dic _ => (mk δ0).bind fun k δ2 => match deref δ2 a, keyD k with
    | .dic kvs, some kk => .ok ((getK kk kvs).getD .non) δ2
    | _, _ => .stuck
  | _ => .stuck
theorem dic_opd {F : Nat → Addr → Prop} {σ : L2.St} {δ : Dl} {τ : List (V × D)} {H : Hp} {v : V} {d : D} {kvs : List (Key × D)} (S : SRF X.K c F σ δ τ H) (h : RepO X.K (c.M F) σ δ H v d) (e : deref δ d = .dic kvs) : RepR X.K (c.M F) H v (.dic kvs) := by
  rcases S.opd h with ⟨i, q⟩ | q
  · rw [q] at e; cases e
  · rw [e] at q; exact q
theorem uns_key {k : D} {kk : Key} (h : keyD k = some kk) : unslot1 k = true := by cases k <;> first | rfl | cases h
theorem de_get2 (hu : X.A.units + 1 < cLine) (ho : DE X c W o md) (he : DE X c W e mb) (hf : DE X c W f mf) (m : M2 X o "get" apos e f pos := by exact ⟨rfl, rfl, rfl, rfl⟩) : DE X c W (.Call (.Attribute o "get" apos) [e, f] [] pos) (mGet2 md mb mf) :=
  pe_imp (pe_dget2 hu ho he hf m) fun σ H Q ⟨F, δ, τ, S, h⟩ => by
    unfold mGet2 at h
    rw [Er.post_bind] at h
    refine ⟨F, δ, τ, S, Er.post_mono h (fun d δ1 h v H1 F1 S1 => ?_) fun x δ' q => q⟩
    split at h
    · rename_i kv0 e0
      obtain ⟨p, ks, rfl, hs, _⟩ := (dic_opd S1 S1.top e0).dicE
      refine ⟨p, rfl, .inl ⟨ks, .inl hs⟩, ?_⟩
      rw [Er.post_bind] at h
      refine ⟨F1, δ1, _, S1, Er.post_mono h (fun k δ2 h w H2 F2 S2 => ?_) fun x δ' q => q.drop⟩
      rw [Er.post_bind] at h
      refine ⟨F2, δ2, _, S2, Er.post_mono h (fun z δ3 h y H3 F3 S3 => ?_) fun x δ' q => q.drop.drop⟩
      split at h
      · rename_i kvs kk e1 e2
        split at h
        · rename_i hz
          have Rd := dic_opd S3 S3.drop.drop.top e1
          have Rk := S3.drop.top.rep (uns_key e2)
          obtain ⟨q, hq, g⟩ := dget_of Rd (.of Rk) e2
          cases hq
          rcases g with ⟨g1, g2⟩ | ⟨d', u, g1, g2, g3⟩
          · rw [g1] at h
            exact ⟨none, g2, h y H3 F3 (S3.drop.drop.drop.push (.inr (S3.top.rep hz)))⟩
          · rw [g1] at h
            exact ⟨some u, g2, h u H3 F3 (S3.drop.drop.drop.push (.inr g3))⟩
        · exact h.elim
      · exact h.elim
    · exact h.elim
theorem de_get1 (hu : X.A.units + 1 < cLine) (ho : DE X c W o md) (he : DE X c W e mb) (m : M1 X o "get" apos e pos := by exact ⟨rfl, rfl, rfl, rfl⟩) : DE X c W (.Call (.Attribute o "get" apos) [e] [] pos) (mGet1 md mb) :=
  pe_imp (pe_dget1 hu ho he m) fun σ H Q ⟨F, δ, τ, S, h⟩ => by
    unfold mGet1 at h
    rw [Er.post_bind] at h
    refine ⟨F, δ, τ, S, Er.post_mono h (fun d δ1 h v H1 F1 S1 => ?_) fun x δ' q => q⟩
    split at h
    · rename_i kv0 e0
      obtain ⟨p, ks, rfl, hs, _⟩ := (dic_opd S1 S1.top e0).dicE
      refine ⟨p, rfl, .inl ⟨ks, .inl hs⟩, ?_⟩
      rw [Er.post_bind] at h
      refine ⟨F1, δ1, _, S1, Er.post_mono h (fun k δ3 h w H3 F3 S3 => ?_) fun x δ' q => q.drop⟩
      split at h
      · rename_i kvs kk e1 e2
        have Rd := dic_opd S3 S3.drop.top e1
        have Rk := S3.top.rep (uns_key e2)
        obtain ⟨q, hq, g⟩ := dget_of Rd (.of Rk) e2
        cases hq
        rcases g with ⟨g1, g2⟩ | ⟨d', u, g1, g2, g3⟩
        · rw [g1] at h
          exact ⟨none, g2, h _ H3 F3 (S3.drop.drop.push (.inr .non))⟩
        · rw [g1] at h
          exact ⟨some u, g2, h u H3 F3 (S3.drop.drop.push (.inr g3))⟩
      · exact h.elim
    · exact h.elim
/-- d[k] = v of an owned dict -/
def mPut (i : Nat) (me mk : ME) : MS := fun δ => (me δ).out fun d δ1 => match getR δ1 i with
  | some (.dic _) => (mk δ1).out fun k δ2 => match keyD k, getR δ2 i with
    | some kk, some (.dic kvs) => if unslot1 d = true ∧ kvs.length < sizeLine then .nx (putR δ2 i (.dic (putKD kvs kk d))) else .stuck
    | _, _ => .stuck
  | _ => .stuck
theorem ds_put {i : Nat} {pos' : Pos} (hu : X.A.units + 1 < cLine) (ho : PE X o (tVar i)) (hi : DE X c W e mb) (hv : DE X c W f mf) (hs : swapsWith f (some (.Subscript o e pos')) pos.line X.env = pure false := by rfl)
    (hz : True := trivial) : PS X (.Assign [.Subscript o e pos'] f pos) (sDPut (tVar i) (tD X.K X.mg c W mb) (tD X.K X.mg c W mf)) → DS X c W (.Assign [.Subscript o e pos'] f pos) (mPut i mf mb) := fun hp =>
  ps_imp hp fun D σ H ⟨F, δ, τ, S, u, h⟩ => by
    unfold mPut at h
    rw [Er.post_out] at h
    refine ⟨F, δ, τ, S, Er.post_mono h (fun d δ1 h v H1 F1 S1 => ?_) fun _ _ q => q.kX⟩
    split at h
    · rename_i kv0 q
      obtain ⟨p, vs, h1, h2, h3, h4⟩ := S1.dicAt (getR_res q)
      rw [Er.post_out] at h
      refine ⟨_, h1, F1, δ1, _, S1, Er.post_mono h (fun k δ2 h w H2 F2 S2 => ?_) fun _ _ q cls dx H' F' S' ie => q.kX cls dx H' F' S'.drop ie⟩
      split at h
      · rename_i kk kvs e2 q1
        split at h
        · rename_i hc
          obtain ⟨b, us, g1, g2, g3, g4⟩ := S2.dicAt (getR_res q1)
          rw [h1] at g1
          cases g1
          have Rk := S2.top.rep (uns_key e2)
          have := key_of (.of Rk) e2
          subst this
          have rv := S2.drop.top.rep hc.1
          exact ⟨p, _, rfl, DPut.k g2 (by rw [repK_len g3]; exact hc.2), h _ _ F2 (S2.drop.drop.putR (r' := .dic (putKD kvs kk d)) (o := .dK (putK us kk v)) (getR_res q1) h1 g4 fun M m => ⟨putK us kk v, upd_same, repK_put (rv.mv m) (g3.mv m), g4⟩)⟩
        · exact h.elim
      · exact h.elim
    · exact h.elim
end
end DL
set_option Elab.async false
set_option linter.all false
set_option maxRecDepth 100000
set_option autoImplicit false
/-! DL14: keywords, names set to comprehensions, more built-ins, what a def's text says. -/
namespace DL
open PySem PySem.Spec PyProof.Rows L2

/-! ### keywords -/
def pick {α : Type} (l : List α) : List Nat → List α
  | [] => []
  | i :: is => match l[i]? with
    | some x => x :: pick l is
    | none => pick l is
def mPick (n m : Nat) (is : List Nat) (ms mk : ML) : ML := fun δ => (ms δ).bind fun ds δ1 => (mk δ1).bind fun es δ2 => if ds.length = n ∧ es.length = m ∧ is.all (fun i => decide (i < n + m)) = true then .ok (pick (ds ++ es) is) δ2 else .stuck
theorem pick_zip {p : V × D} : ∀ {is : List Nat} {vs : List V} {ds : List D}, vs.length = ds.length → p ∈ zipT (pick vs is) (pick ds is) → p ∈ zipT vs ds
  | [], _, _, _, h => by cases h
  | i :: is, vs, ds, hl, h => by
    unfold pick at h
    by_cases hi : i < vs.length
    · rw [List.getElem?_eq_getElem hi, List.getElem?_eq_getElem (by omega : i < ds.length)] at h
      simp only at h
      rcases List.mem_cons.mp h with e | h
      · rw [e]
        exact zip_get (List.getElem?_eq_getElem hi) (List.getElem?_eq_getElem (by omega : i < ds.length))
      · exact pick_zip hl h
    · rw [List.getElem?_eq_none (by omega), List.getElem?_eq_none (by omega : ds.length ≤ i)] at h
      exact pick_zip hl h
theorem pick_len {α β : Type} : ∀ {is : List Nat} {vs : List α} {ds : List β}, vs.length = ds.length → (pick vs is).length = (pick ds is).length
  | [], _, _, _ => rfl
  | i :: is, vs, ds, hl => by
    unfold pick
    by_cases hi : i < vs.length
    · rw [List.getElem?_eq_getElem hi, List.getElem?_eq_getElem (by omega : i < ds.length)]
      simp [pick_len (is := is) hl]
    · rw [List.getElem?_eq_none (by omega), List.getElem?_eq_none (by omega : ds.length ≤ i)]
      exact pick_len hl
theorem pick_vals : ∀ {is : List Nat} {vs : List V} {us : List Value}, Vals vs us → Vals (pick vs is) (pick us is)
  | [], _, _, _ => .nil
  | i :: is, vs, us, r => by
    have hl := r.length
    unfold pick
    by_cases hi : i < vs.length
    · obtain ⟨u, h1, h2⟩ := r.get (List.getElem?_eq_getElem hi)
      rw [List.getElem?_eq_getElem hi, h1]
      exact .cons h2 (pick_vals r)
    · rw [List.getElem?_eq_none (by omega), List.getElem?_eq_none (by omega : us.length ≤ i)]
      exact pick_vals r
theorem pick_imp {K : PySem.W.Frag} {mg : Str → Option Value} {c : Ctx} {W : WX} {n m : Nat} {is : List Nat} {ms mk : ML} {σ : L2.St} {H : Hp} {P : List V → Hp → Prop} (h : tDA K mg c W (mPick n m is ms mk) σ H P) :
    tDA K mg c W ms σ H fun vs H1 => tDA K mg c W mk σ H1 fun zs H2 => vs.length = n ∧ zs.length = m ∧ P (pick (vs ++ zs) is) H2 := by
  obtain ⟨F, δ, τ, S, h⟩ := h
  unfold mPick at h
  rw [Er.post_bind] at h
  refine ⟨F, δ, τ, S, Er.post_mono h (fun ds δ1 h vs H1 F1 hl S1 => ?_) fun x δ' q => q⟩
  rw [Er.post_bind] at h
  refine ⟨F1, δ1, _, S1, Er.post_mono h (fun es δ2 h zs H2 F2 hl2 S2 => ?_) fun x δ' q cls dx H' F' S' ie => q cls dx H' F' S'.pops ie⟩
  split at h
  · rename_i hc
    refine ⟨by omega, by omega, h _ H2 F2 (pick_len (by simp [hl, hl2])) (S2.sub fun p hp => ?_)⟩
    rcases List.mem_append.mp hp with hp | hp
    · have := pick_zip (by simp [hl, hl2]) hp
      rw [zipT_append hl] at this
      rcases List.mem_append.mp this with q | q
      · exact List.mem_append_right _ (List.mem_append_left _ q)
      · exact List.mem_append_left _ q
    · exact List.mem_append_right _ (List.mem_append_right _ hp)
  · exact h.elim
abbrev DK (X : Cx) (c : Ctx) (W : WX) (kws : List Keyword) (m : ML) : Prop := PK X kws (tDA X.K X.mg c W m)
section
variable {X : Cx} {c : Ctx} {W : WX} {e : Expr} {es : List Expr} {kws : List Keyword} {ma : ME} {ms mk : ML} {pos p kpos : Pos} {nm : Option Str}
theorem pk_imp {t t' : TA} (h : PK X kws t) (k : ∀ σ H Q, t' σ H Q → t σ H Q) : PK X kws t' := ⟨fun pos pins s σ H Q I q => h.run pos pins s σ H Q I (k σ H Q q)⟩
theorem dk_nil : DK X c W [] mNil := pk_imp pk_nil fun σ H Q ⟨F, δ, τ, S, h⟩ => h [] H F rfl S
theorem cons_imp {mr : ML} : ∀ σ H Q, tDA X.K X.mg c W (mCons ma mr) σ H Q → tCons (tD X.K X.mg c W ma) (tDA X.K X.mg c W mr) σ H Q := fun σ H Q ⟨F, δ, τ, S, h⟩ => by
  unfold mCons at h
  rw [Er.post_bind] at h
  refine ⟨F, δ, τ, S, Er.post_mono h (fun d δ1 h v H1 F1 S1 => ?_) fun x δ' q => q⟩
  rw [Er.post_bind] at h
  refine ⟨F1, δ1, (v, d) :: τ, S1, Er.post_mono h (fun ds δ2 h vs H2 F2 hl S2 => ?_) fun x δ' q => q.drop⟩
  refine h (v :: vs) H2 F2 (by simp [hl]) (S2.sub fun p hp => ?_)
  have hp : p ∈ (v, d) :: (zipT vs ds ++ τ) := hp
  rcases List.mem_cons.mp hp with e | hp
  · exact List.mem_append_right _ (by rw [e]; exact List.mem_cons_self)
  · rcases List.mem_append.mp hp with hp | hp
    · exact List.mem_append_left _ hp
    · exact List.mem_append_right _ (List.mem_cons_of_mem _ hp)
theorem dk_cons (ha : DE X c W e ma) (hr : DK X c W kws mk) : DK X c W (⟨nm, e, kpos⟩ :: kws) (mCons ma mk) := pk_imp (pk_cons ha hr) cons_imp
/-- how the parameters are bound: by places among the positional values and the keywords' -/
def KPick (K : PySem.W.Frag) (fd : FuncData) (ps : List Str) (n : Nat) (ks : List Str) (is : List Nat) : Prop :=
  ∀ (s : Shared) (us ws : List Value), K.In s.heap → us.length = n → ws.length = ks.length → BindsTo s fd ⟨us, ks.zip ws⟩ (ps.zip (pick (us ++ ws) is))
variable {k np mm n : Nat} {f : Addr} {fd : FuncData} {ps ks : List Str} {body : MS} {x : Str} {is : List Nat} {sp : Sp} {E : L2.St → XK} {t tk : TA}
def tCallKS (n m : Nat) (is : List Nat) (sp : Sp) (E : L2.St → XK) (t tk : TA) : TE := fun σ H Q => t σ H fun vs H1 => tk σ H1 fun zs H2 => vs.length = n ∧ zs.length = m ∧ sp (pick (vs ++ zs) is) H2 Q (E σ)
theorem run_fnKS {pins : List (Addr × Obj)} {σ : L2.St} {H : Hp} {s : Shared} {Q : VK} {us ws : List Value} {vs zs : List V} (F : FnOk X.prog X.w X.K X.mg X.base (L2.CX X.prog X.w) k f fd ps sp) (hr : Room k X.A) (hb : KPick X.K fd ps n ks is) (hx : PassesAt (L2.CX X.prog X.w) X σ (E σ))
    (I : Inv X pins σ H s) (r : Vals vs us) (rz : Vals zs ws) (l1 : vs.length = n) (l2 : zs.length = ks.length) (h : sp (pick (vs ++ zs) is) H Q (E σ)) : wpAny (model X.prog X.w) X.A (call (.ref f) us (ks.zip ws)) (EP X pins σ Q) X.xe s := by
  have r2 : Vals (pick (vs ++ zs) is) (pick (us ++ ws) is) := pick_vals (r.append rz)
  refine wpAny_call (codeAny_mono (F.run X.A X.stack s H ⟨us, ks.zip ws⟩ _ _ Q (E σ) hr I.env0 (hb s us ws I.kIn (r.length.symm.trans l1) (rz.length.symm.trans l2)) r2 h) fun r s' hq => ?_)
  cases r with
  | error e => exact hx pins H s e s' I hq
  | ok fl =>
    cases fl with
    | ret u => exact I.after hq
    | next => exact False.elim hq
    | brk => exact False.elim hq
    | cont => exact False.elim hq
theorem pe_callKS (F : FnOk X.prog X.w X.K X.mg X.base (L2.CX X.prog X.w) k f fd ps sp) (hr : Room k X.A) (hg : Gl X x) (hm : X.mg x = some (.ref f)) (hk : PySem.W.keepIn X.K (.ref f) = true) (hb : KPick X.K fd ps n ks is) (hx : ∀ σ, PassesAt (L2.CX X.prog X.w) X σ (E σ))
    (ha : PA X (e :: es) t) (hkw : PK X kws tk) (hall : (backToKw pos (keywordEach kws X.env)).all (·.1.isSome) = true := by rfl) (hks : (backToKw pos (keywordEach kws X.env)).filterMap (·.1) = ks := by rfl)
    (hdb : (x == ("__debug__" : Str)) = false := by decide) (he : starEach (e :: es) X.env = (false, eval e X.env) :: starEach es X.env := by rfl)
    (hpl : ((backTo pos (starEach (e :: es) X.env)).any (·.1) || (backToKw pos (keywordEach kws X.env)).any (·.1.isNone)) = false := by rfl) :
    PE X (.Call (.Name x p) (e :: es) kws pos) (tCallKS n ks.length is sp E t tk) := by
  refine ⟨fun pins s σ H Q I h => ?_⟩
  refine wpAny_Call_Name_kw (ld_glob I hg hm ?_ hdb)
  refine PySem.W.callWith_KW (h₀ := X.base) I.ok.mod.kin hk hall (thn (ha.run pos pins s σ H _ I h) fun us s1 ⟨vs, H1, I1, r, q⟩ => ?_) hpl he
  refine thn (hkw.run pos pins s1 σ H1 _ I1 q) fun ws s2 ⟨zs, H2, I2, rz, l1, l2, q2⟩ => ⟨I2.kIn, ?_⟩
  rw [hks]
  exact run_fnKS F hr hb (hx σ) I2 r rz l1 l2 q2
theorem pe_callKS0 (F : FnOk X.prog X.w X.K X.mg X.base (L2.CX X.prog X.w) k f fd ps sp) (hr : Room k X.A) (hg : Gl X x) (hm : X.mg x = some (.ref f)) (hk : PySem.W.keepIn X.K (.ref f) = true) (hb : KPick X.K fd ps 0 ks is) (hx : ∀ σ, PassesAt (L2.CX X.prog X.w) X σ (E σ))
    (hkw : PK X kws tk) (hall : (backToKw pos (keywordEach kws X.env)).all (·.1.isSome) = true := by rfl) (hks : (backToKw pos (keywordEach kws X.env)).filterMap (·.1) = ks := by rfl)
    (hdb : (x == ("__debug__" : Str)) = false := by decide)
    (hpl : ((backTo pos (starEach [] X.env)).any (·.1) || (backToKw pos (keywordEach kws X.env)).any (·.1.isNone)) = false := by rfl) :
    PE X (.Call (.Name x p) [] kws pos) (tCallKS 0 ks.length is sp E tNil tk) := by
  refine ⟨fun pins s σ H Q I h => ?_⟩
  refine wpAny_Call_Name_kw (ld_glob I hg hm ?_ hdb)
  refine PySem.W.callWith_KW0 (h₀ := X.base) I.ok.mod.kin hk hall ?_ hpl
  refine thn (hkw.run pos pins s σ H _ I h) fun ws s2 ⟨zs, H2, I2, rz, l1, l2, q2⟩ => ⟨I2.kIn, ?_⟩
  rw [hks]
  exact run_fnKS (us := []) (vs := []) F hr hb (hx σ) I2 .nil rz rfl l2 q2
theorem de_callK (F : FnOk X.prog X.w X.K X.mg X.base (L2.CX X.prog X.w) k f fd ps (spD X.K X.mg mm np body)) (hr : Room k X.A) (hg : Gl X x) (hm : X.mg x = some (.ref f)) (hk : PySem.W.keepIn X.K (.ref f) = true) (hb : KPick X.K fd ps n ks is) (hx : ∀ σ, PassesAt (L2.CX X.prog X.w) X σ (WE W σ))
    (ha : DA X c W (e :: es) ms) (hkw : DK X c W kws mk) (hall : (backToKw pos (keywordEach kws X.env)).all (·.1.isSome) = true := by rfl) (hks : (backToKw pos (keywordEach kws X.env)).filterMap (·.1) = ks := by rfl)
    (hdb : (x == ("__debug__" : Str)) = false := by decide) (he : starEach (e :: es) X.env = (false, eval e X.env) :: starEach es X.env := by rfl)
    (hpl : ((backTo pos (starEach (e :: es) X.env)).any (·.1) || (backToKw pos (keywordEach kws X.env)).any (·.1.isNone)) = false := by rfl) :
    DE X c W (.Call (.Name x p) (e :: es) kws pos) (mCall mm np body [] (mPick n ks.length is ms mk)) :=
  pe_imp (pe_callKS F hr hg hm hk hb hx ha hkw hall hks hdb he hpl) fun σ H Q ⟨F0, δ, τ, S, h⟩ => by
    have q := callG_imp (Q := Q) (dvs := []) (fun _ _ => .nil) F0 δ τ S h (fun d δ1 v H' F' q hl S' => q v H' F' S') fun r δ1 a H' F' q hl S' => by
      have hτ := S.nslot (n := δ1.length) (by omega)
      cases r with
      | lst ds => exact q _ _ _ (S'.freezeL hτ)
      | dic ds => exact q _ _ _ (S'.freezeK hτ)
      | abs A => exact q.elim
    have q := pick_imp q
    obtain ⟨F1, δ1, τ1, S1, q⟩ := q
    refine ⟨F1, δ1, τ1, S1, Er.post_mono q (fun ds δ2 q vs H2 F2 hl S2 => ?_) fun _ _ q => q⟩
    obtain ⟨F3, δ3, τ3, S3, q⟩ := q vs H2 F2 hl S2
    refine ⟨F3, δ3, τ3, S3, Er.post_mono q (fun es δ4 q zs H4 F4 hl4 S4 => ?_) fun _ _ q => q⟩
    obtain ⟨h1, h2, h3⟩ := q zs H4 F4 hl4 S4
    exact ⟨h1, h2, by rw [List.append_nil] at h3; exact h3⟩
theorem de_callK0 (F : FnOk X.prog X.w X.K X.mg X.base (L2.CX X.prog X.w) k f fd ps (spD X.K X.mg mm np body)) (hr : Room k X.A) (hg : Gl X x) (hm : X.mg x = some (.ref f)) (hk : PySem.W.keepIn X.K (.ref f) = true) (hb : KPick X.K fd ps 0 ks is) (hx : ∀ σ, PassesAt (L2.CX X.prog X.w) X σ (WE W σ))
    (hkw : DK X c W kws mk) (hall : (backToKw pos (keywordEach kws X.env)).all (·.1.isSome) = true := by rfl) (hks : (backToKw pos (keywordEach kws X.env)).filterMap (·.1) = ks := by rfl)
    (hdb : (x == ("__debug__" : Str)) = false := by decide)
    (hpl : ((backTo pos (starEach [] X.env)).any (·.1) || (backToKw pos (keywordEach kws X.env)).any (·.1.isNone)) = false := by rfl) :
    DE X c W (.Call (.Name x p) [] kws pos) (mCall mm np body [] (mPick 0 ks.length is mNil mk)) :=
  pe_imp (pe_callKS0 F hr hg hm hk hb hx hkw hall hks hdb hpl) fun σ H Q ⟨F0, δ, τ, S, h⟩ => by
    have q := callG_imp (Q := Q) (dvs := []) (fun _ _ => .nil) F0 δ τ S h (fun d δ1 v H' F' q hl S' => q v H' F' S') fun r δ1 a H' F' q hl S' => by
      have hτ := S.nslot (n := δ1.length) (by omega)
      cases r with
      | lst ds => exact q _ _ _ (S'.freezeL hτ)
      | dic ds => exact q _ _ _ (S'.freezeK hτ)
      | abs A => exact q.elim
    have q := pick_imp q
    obtain ⟨F1, δ1, τ1, S1, q⟩ := q
    obtain ⟨F3, δ3, τ3, S3, q⟩ := q [] H F1 rfl S1
    show tDA X.K X.mg c W mk σ H _
    refine ⟨F3, δ3, τ3, S3, Er.post_mono q (fun es δ4 q zs H4 F4 hl4 S4 => ?_) fun _ _ q => q⟩
    obtain ⟨h1, h2, h3⟩ := q zs H4 F4 hl4 S4
    exact ⟨h1, h2, by rw [List.append_nil] at h3; exact h3⟩

/-! ### name = [..] on one line -/
theorem asg_name {m : ME} {i : Nat} (D : Ends) (σ : L2.St) (H : Hp) (h : tDS X.K X.mg c W (mAsg m (gN i)) D σ H) : tAsg (tD X.K X.mg c W m) (gName i) D σ H := by
  have h := tDS_asg (is := [i]) gN_ns D σ H h
  obtain ⟨F, δ, τ, S, h⟩ := h
  refine ⟨F, δ, τ, S, Er.post_mono h (fun d δ1 h v H1 F1 S1 => ?_) fun _ _ q => q⟩
  obtain ⟨c, F, δ, τ, d, δ', S, r, hτ, e, k⟩ := h v H1 F1 S1
  exact k _ _ (gN_step S r (fun p hp => hτ p hp i List.mem_cons_self) e) fun vs h => wipe_set (h i List.mem_cons_self)
theorem fz_imp {m : Dl → Er R} : ∀ σ H Q, tD X.K X.mg c W (mFz m) σ H Q → tF X.K X.mg c W m σ H Q := fun σ H Q ⟨F, δ, τ, S, h⟩ => by
  unfold mFz at h
  rw [Er.post_bind] at h
  refine ⟨F, δ, τ, S, Er.post_mono h (fun r δ1 h a H1 F1 hl S1 => ?_) fun _ _ q => q⟩
  have hτ := S.nslot (n := δ1.length) (by omega)
  cases r with
  | lst ds => exact h _ _ _ (S1.freezeL hτ)
  | dic ds => exact h _ _ _ (S1.freezeK hτ)
  | abs A => exact h.elim
variable {i : Nat} {y : Str} {py : Pos} {elt tg iter : Expr} {ifs : List Expr} {scope : Scope} {own : List (Str × Nat)} {spos : Pos} {src : ML} {g : MG} {tt : MT} {el : ME}
theorem ds_setLc {is : List Nat} (hc : X.calm = true) (hN : X.N.Nodup) (hy : X.N[i]? = some y) (hyl : X.env.scope.names.lookup y = some .local)
    (hsw : swapsWith (.ListComp elt [⟨tg, iter, ifs, 0⟩] scope pos) (some (.Name y py)) spos.line X.env = pure true) (hi : DI X c W tg iter src) (ok : BlkOk X.N X.env.scope scope own)
    (hg : ∀ (s : Shared) (H : Hp) (C : Addr) (cl : List (Str × Addr)) (fp : List Addr), DG (X.blk s H scope (compEnvC scope cl C X.env) fp) tg g is) (ht : ∀ (s : Shared) (H : Hp) (C : Addr) (cl : List (Str × Addr)) (fp : List Addr), PTs (X.blk s H scope (compEnvC scope cl C X.env) fp) ifs (tDTx X.K X.mg tt))
    (he : ∀ (s : Shared) (H : Hp) (C : Addr) (cl : List (Str × Addr)) (fp : List Addr), PE (X.blk s H scope (compEnvC scope cl C X.env) fp) elt (tDx X.K X.mg el)) (his : ∀ i ∈ is, i ∈ own.map (·.2) := by decide) (hs : ∀ x, foldedSetIterable iter X.env x = pure x := by intro _; rfl) :
    DS X c W (.Assign [.Name y py] (.ListComp elt [⟨tg, iter, ifs, 0⟩] scope pos) spos) (mAsg (mFz (mLc (own.map (·.2)) src g tt el)) (gN i)) :=
  ps_imp (ps_setLc hc hN hy hyl hsw hi ok hg ht he hs) fun D σ H h => lc_imp his _ _ _ (fz_imp _ _ _ (asg_name D σ H h))
theorem ds_ownLc {is : List Nat} (hc : X.calm = true) (hN : X.N.Nodup) (hy : X.N[i]? = some y) (hyl : X.env.scope.names.lookup y = some .local)
    (hsw : swapsWith (.ListComp elt [⟨tg, iter, ifs, 0⟩] scope pos) (some (.Name y py)) spos.line X.env = pure true) (hi : DI X c W tg iter src) (ok : BlkOk X.N X.env.scope scope own)
    (hg : ∀ (s : Shared) (H : Hp) (C : Addr) (cl : List (Str × Addr)) (fp : List Addr), DG (X.blk s H scope (compEnvC scope cl C X.env) fp) tg g is) (ht : ∀ (s : Shared) (H : Hp) (C : Addr) (cl : List (Str × Addr)) (fp : List Addr), PTs (X.blk s H scope (compEnvC scope cl C X.env) fp) ifs (tDTx X.K X.mg tt))
    (he : ∀ (s : Shared) (H : Hp) (C : Addr) (cl : List (Str × Addr)) (fp : List Addr), PE (X.blk s H scope (compEnvC scope cl C X.env) fp) elt (tDx X.K X.mg el)) (his : ∀ i ∈ is, i ∈ own.map (·.2) := by decide) (hs : ∀ x, foldedSetIterable iter X.env x = pure x := by intro _; rfl) :
    DS X c W (.Assign [.Name y py] (.ListComp elt [⟨tg, iter, ifs, 0⟩] scope pos) spos) (mOwn (mLc (own.map (·.2)) src g tt el) i) :=
  ps_imp (ps_setLc hc hN hy hyl hsw hi ok hg ht he hs) fun D σ H h => lc_imp his _ _ _ (tDS_own D σ H h)
end

/-! ### what a def's text says -/
structure DefAt (K : PySem.W.Frag) (mg : Str → Option Value) (x : Str) (st : Stmt) : Prop where
  ex : ∃ f fd, mg x = some (.ref f) ∧ Fun K x x st f fd
theorem def_mk {K : PySem.W.Frag} {h : Heap} {mg : Str → Option Value} {x : Str} {st : Stmt} {f : Addr} {oc : Value} {od an : Option Addr} {osl : Array (Option Value)} {kV doc pm cdv ct : Value} (X : K.In h) (G : h.Ns mainGlobals mg) (a : PySem.W.nsIn K mainGlobals x = some (some (.ref f)))
    (l : K.lookup f = some ⟨oc, od, .func (PySem.W.fnOf x x (defArgs st) (defBody st) (defScope st) .none kV doc pm an cdv ct), osl⟩) (c : PySem.W.codeIn K cdv x = true) (k : PySem.W.keepIn K (.ref f) = true) : DefAt K mg x st :=
  ⟨f, _, PySem.W.mg_of X G a, fun_mk (st := st) l c k⟩
/-- a def that keeps its meaning -/
structure Good (P : Program) (w : World) (K : PySem.W.Frag) (mg : Str → Option Value) (base : Heap) (k : Nat) (x : Str) (st : Stmt) (ps : List Str) (n : Nat) (body : MS) : Prop where
  ex : ∃ f fd, mg x = some (.ref f) ∧ Fun K x x st f fd ∧ FnOk P w K mg base (L2.CX P w) k f fd ps (spD K mg n ps.length body)
theorem good_mk {P : Program} {w : World} {K : PySem.W.Frag} {mg : Str → Option Value} {base : Heap} {k : Nat} {x : Str} {st : Stmt} {N ps : List Str} {body : MS} (d : DefAt K mg x st) (S : FnScope N ps (defScope st))
    (hb : ∀ (f : Addr) (cdv : Value) (A : Around) (outer : List Env) (s : Shared) (H : Hp) (E : XK) (c : Ctx), Room k (A.deeper (envOfC x (defScope st) s.heap.objs.size f cdv)) →
      DSs (cxOf (L2.CX P w) P w K mg base N x (defScope st) f cdv A outer s H E) c (fun cls d _ H => E cls d H) (defBody st) body) : Good P w K mg base (k + 1) x st ps N.length body := by
  obtain ⟨f, fd, g, F⟩ := d.ex
  exact ⟨f, fd, g, F, fn_ok F S (hb f)⟩
end DL
set_option Elab.async false
set_option linter.all false
set_option maxRecDepth 100000
set_option autoImplicit false
/-! DL15: max, min, sum; errors; the law's own end. -/
namespace DL
open PySem PySem.Spec PyProof.Rows L2

theorem units65 {A : Around} {k : Nat} (hr : Room k A) : A.units + 65 < cLine := by have := hr.un; omega
def mLstF (ms : ML) : Dl → Er R := fun δ => (ms δ).bind fun ds δ1 => if ds.all unslot1 = true ∧ ds.length ≤ sizeLine ∧ δ1.length = δ.length then .ok (.lst ds) δ1 else .stuck
section
variable {X : Cx} {c : Ctx} {W : WX} {a b e : Expr} {es : List Expr} {ma mb : ME} {ms : ML} {p pos : Pos} {x : Str}
theorem df_lstF (h : DA X c W es ms) : DF X c W (.List es pos) (mLstF ms) := df_lst h
theorem de_max2 {a2 : Expr} (hc : X.calm = true) (hg : Gl X "max") (hm : X.mg "max" = none) (ha : DA X c W [e, a2] ms) (he : starEach [e, a2] X.env = (false, eval e X.env) :: starEach [a2] X.env := by rfl) (hpl : (backTo pos (starEach [a2] X.env)).any (·.1) = false := by rfl) : DE X c W (.Call (.Name "max" p) [e, a2] [] pos) (mA max2D ms) :=
  de_blt (call_max2 hc) (fun F σ δ τ H vs ds d Q S r e k => by
    unfold max2D at e
    split at e
    · obtain ⟨v, w, rfl, h1, h2⟩ := rs2 r
      cases e
      rw [h1.intE, h2.intE]
      exact ⟨_, _, rfl, k _ H S (.int _)⟩
    · cases e) (fun ds d e x hx => by
    unfold max2D at e
    split at e
    · rcases List.mem_cons.mp hx with rfl | hx
      · rfl
      · rw [List.mem_singleton.mp hx]; rfl
    · cases e) hg hm (by decide +kernel) ha (he := he) (hpl := hpl)
theorem de_min2 {a2 : Expr} (hc : X.calm = true) (hg : Gl X "min") (hm : X.mg "min" = none) (ha : DA X c W [e, a2] ms) (he : starEach [e, a2] X.env = (false, eval e X.env) :: starEach [a2] X.env := by rfl) (hpl : (backTo pos (starEach [a2] X.env)).any (·.1) = false := by rfl) : DE X c W (.Call (.Name "min" p) [e, a2] [] pos) (mA min2D ms) :=
  de_blt (call_min2 hc) (fun F σ δ τ H vs ds d Q S r e k => by
    unfold min2D at e
    split at e
    · obtain ⟨v, w, rfl, h1, h2⟩ := rs2 r
      cases e
      rw [h1.intE, h2.intE]
      exact ⟨_, _, rfl, k _ H S (.int _)⟩
    · cases e) (fun ds d e x hx => by
    unfold min2D at e
    split at e
    · rcases List.mem_cons.mp hx with rfl | hx
      · rfl
      · rw [List.mem_singleton.mp hx]; rfl
    · cases e) hg hm (by decide +kernel) ha (he := he) (hpl := hpl)
theorem de_sum (hc : X.calm = true) (hg : Gl X "sum") (hm : X.mg "sum" = none) (ha : DA X c W [e] ms) (he : starEach [e] X.env = (false, eval e X.env) :: starEach [] X.env := by rfl) : DE X c W (.Call (.Name "sum" p) [e] [] pos) (mA sumD ms) :=
  de_blt (cr_sum hc) (fun F σ δ τ H vs ds d Q S r e k => by
    unfold sumD at e
    split at e
    · rename_i ds
      obtain ⟨v, rfl, h⟩ := rs1 r
      obtain ⟨a, us, rfl, hs, l⟩ := h.lstE
      cases q : intsD ds with
      | none => rw [q] at e; cases e
      | some bs =>
        rw [q] at e
        cases e
        have := ints_of l q
        subst this
        exact ⟨a, bs, rfl, SqL.of hs, k _ H S (.int _)⟩
    · cases e) (fun ds d e x hx => by
    unfold sumD at e
    split at e <;> first | (rw [List.mem_singleton.mp hx]; rfl) | cases e) hg hm (by decide +kernel) ha (he := he) (hpl := rfl)
end

/-! ### own errors -/
structure ExcAt (K : PySem.W.Frag) (mg : Str → Option Value) (x : Str) : Prop where
  ex : ∃ (C : Addr) (bmB : List Value) (B newId initId : String), mg x = some (.ref C) ∧ ExcBaseFacts B newId initId bmB ∧ PySem.W.excIn K C bmB newId = true ∧ PySem.W.keepIn K (.ref C) = true ∧ PySem.W.subIn K (.ref C) (.type "BaseException") = some true ∧ PySem.W.typeIn K (.ref C) = some (.type "type")
theorem exc_mk {K : PySem.W.Frag} {h : Heap} {mg : Str → Option Value} {x : Str} {C : Addr} {bmB : List Value} {B newId initId : String} (F : ExcBaseFacts B newId initId bmB) (X : K.In h) (G : h.Ns mainGlobals mg) (a : PySem.W.nsIn K mainGlobals x = some (some (.ref C))) (q : PySem.W.excIn K C bmB newId = true) (k : PySem.W.keepIn K (.ref C) = true)
    (s : PySem.W.subIn K (.ref C) (.type "BaseException") = some true) (t : PySem.W.typeIn K (.ref C) = some (.type "type")) : ExcAt K mg x := ⟨C, bmB, B, newId, initId, PySem.W.mg_of X G a, F, q, k, s, t⟩
structure ExmAt (K : PySem.W.Frag) (mg : Str → Option Value) (y x : Str) (b : Bool) : Prop where
  ex : ∃ C D, mg y = some (.ref C) ∧ mg x = some (.ref D) ∧ PySem.W.exmOne K (.ref C) (.ref D) = some b
theorem exm_mk {K : PySem.W.Frag} {h : Heap} {mg : Str → Option Value} {y x : Str} {b : Bool} {C D : Addr} (X : K.In h) (G : h.Ns mainGlobals mg) (a : PySem.W.nsIn K mainGlobals y = some (some (.ref C))) (a2 : PySem.W.nsIn K mainGlobals x = some (some (.ref D))) (e : PySem.W.exmOne K (.ref C) (.ref D) = some b) : ExmAt K mg y x b :=
  ⟨C, D, PySem.W.mg_of X G a, PySem.W.mg_of X G a2, e⟩
section
variable {X : Cx} {c : Ctx} {W : WX}
theorem ds_raiseX {x m : Str} {j : Nat} {p p2 pos pos2 : Pos} (T : ExcAt X.K X.mg x) (hg : Gl X x) (hc : X.calm = true) (tk : Takes X W) (hdb : (x == ("__debug__" : Str)) = false := by decide) :
    DS X c W (.Raise (some (.Call (.Name x p) [.Constant (.str m) j p2] [] pos)) none pos2) (mRaise ⟨x, []⟩) := by
  obtain ⟨C, bmB, B, n, i, g, F, q, k, s, t⟩ := T.ex
  exact ds_raise (pmk_own F q g k (raises_own s t) hg hdb) hc tk g
/-- which clause takes which error -/
inductive ExL (K : PySem.W.Frag) (mg : Str → Option Value) (x : Str) : List (Str × Bool) → Prop
  | nil : ExL K mg x []
  | cons {y : Str} {b : Bool} {l : List (Str × Bool)} (h : ExmAt K mg y x b) (r : ExL K mg x l) : ExL K mg x ((y, b) :: l)
theorem ExL.get {K : PySem.W.Frag} {mg : Str → Option Value} {x : Str} {l : List (Str × Bool)} {D : Addr} (h : ExL K mg x l) (g : mg x = some (.ref D)) : ∀ y b, l.lookup y = some b → ∀ C, mg y = some (.ref C) → PySem.W.exmOne K (.ref C) (.ref D) = some b := by
  induction h with
  | nil => intro y b e; cases e
  | @cons z b0 l h r ih =>
    intro y b e C gC
    simp only [List.lookup] at e
    split at e
    · rename_i q
      have q := beq_iff_eq.mp q
      subst q
      cases e
      obtain ⟨C2, D2, h1, h2, h3⟩ := h.ex
      rw [gC] at h1
      rw [g] at h2
      cases h1
      cases h2
      exact h3
    · exact ih y b e C gC
def hand (l : List (Str × Bool)) (s : MS) (hs : Str → Option (Option MS)) : Str → Option (Option MS) := fun y => match l.lookup y with
  | some true => some (some s)
  | some false => hs y
  | none => none
def hEnd : Str → Option (Option MS) := fun _ => some none
def HandsX (X : Cx) (hds : List ExceptHandler) (hs : Str → Option (Option MS)) (c : Ctx) (W : WX) : Prop := ∃ l, Hands X hds l hs c W
theorem hands_nil : HandsX X [] hEnd c W := ⟨_, .nil⟩
theorem hands_cons {x : Str} {D : Addr} {l : List (Str × Bool)} {b0 : Stmt} {suite : List Stmt} {np pos' : Pos} {hds : List ExceptHandler} {hs : Str → Option (Option MS)} {s : MS} (hg : Gl X x) (g : X.mg x = some (.ref D)) (hx : ExL X.K X.mg x l)
    (hsu : ∀ (a : Addr) (oe : Obj) (cls : Value) (d : Option Addr) (pn : List (Addr × Obj)), DSs (X.suite a ((a, oe) :: pn)) c W0 (b0 :: suite) s) (r : HandsX X hds hs c W) (hdb : (x == ("__debug__" : Str)) = false := by decide) :
    HandsX X (.ExceptHandler (some (.Name x np)) none (b0 :: suite) pos' :: hds) (hand l s hs) c W := by
  obtain ⟨L, r⟩ := r
  exact ⟨_, Hands.cons (sub := fun y => l.lookup y) ⟨hg, hdb, .inl g⟩ (hx.get g) hsu r⟩
theorem ds_tryX {pos : Pos} {body : List Stmt} {b : MS} {h0 : ExceptHandler} {hds : List ExceptHandler} {hs : Str → Option (Option MS)} (hst : X.stack = X.env :: X.outer) (hf : X.env.frame = some X.env.locals) (tk : Takes X W)
    (hb : ∀ (W' : WX) (pn : List (Addr × Obj)) (xe : Value → Shared → Prop), Takes (X.tr pn xe) W' → PassesOwn (model X.prog X.w) X.A X.env xe → DSs (X.tr pn xe) c W' body b)
    (hh : HandsX X (h0 :: hds) hs c W) : DS X c W (.Try body (h0 :: hds) [] [] pos) (mTry b hs) := by
  obtain ⟨l, hh⟩ := hh
  exact ds_try hst hf tk hb hh
end

/-! ### the law's end -/
theorem spD_law {K : PySem.W.Frag} {mg : Str → Option Value} {m : Nat} {body : MS} {n : Nat} (hb : ∀ ns : List Int, ns.length ≤ n → ∃ δ, body (Slot.val (.ro (ns.map D.int)) :: List.replicate (m - 1) Slot.no) = .ret (.val (.bl true)) δ) (H : Hp) (a : Addr) (ns : List Int) (hl : ns.length ≤ n) (hO : Only H) (hS : SqL K H a (ns.map V.int)) :
    spD K mg m 1 body [.ref a] H (fun v _ => v = .bl true) fun _ _ _ => False := by
  obtain ⟨δ, e⟩ := hb ns hl
  have rl : ∀ ns : List Int, RepL K (fun _ => False) H (ns.map V.int) (ns.map D.int) := fun ns => by
    induction ns with
    | nil => exact .nil
    | cons z ns ih => exact .cons (.int z) ih
  have hro : RoAt K (fun _ => False) H a (ns.map V.int) := by
    rcases hS with h | h
    · exact .inl ⟨h, fun z => z⟩
    · exact .inr h
  let c : Ctx := ⟨H, fun _ => False, fun _ => False, []⟩
  have S0 : SRF K c (fun _ _ => False) (some (V.ref a) :: List.replicate (m - 1) none) (Slot.val (.ro (ns.map D.int)) :: List.replicate (m - 1) Slot.no) [] H := by
    have hM : c.M (fun _ _ => False) = fun _ => False := by
      funext b
      exact propext ⟨fun h => by rcases h with h | ⟨_, h⟩ <;> exact h, fun h => h.elim⟩
    have noR : ∀ {j : Nat} {s : Slot}, (Slot.val (.ro (ns.map D.int)) :: List.replicate (m - 1) Slot.no)[j]? = some s → (∀ r, s = .own r ∨ s = .bor r → False) := fun {j s} e r hs => by
      cases j with
      | zero => simp at e; subst e; rcases hs with hs | hs <;> cases hs
      | succ j =>
        have e' : (List.replicate (m - 1) Slot.no)[j]? = some s := by simpa using e
        have := List.mem_of_getElem? e'
        rw [List.mem_replicate] at this
        rw [this.2] at hs
        rcases hs with hs | hs <;> cases hs
    refine ⟨by simp, fun j d e => ?_, fun j r e => ?_, fun j b h => h.elim, fun j k b h _ => h.elim, fun j b h => h.elim, fun j b h => h.elim, fun b h => h.elim, fun b o e _ => e, fun p hp => (by cases hp), fun p hp => (by cases hp)⟩
    · cases j with
      | zero =>
        simp at e
        subst e
        exact ⟨_, rfl, by rw [hM]; exact .ro hro (rl ns)⟩
      | succ j =>
        have e' : (List.replicate (m - 1) Slot.no)[j]? = some (Slot.val d) := by simpa using e
        have := List.mem_of_getElem? e'
        rw [List.mem_replicate] at this
        cases this.2
    · rcases e with e | e
      · exact (noR e r (.inl rfl)).elim
      · exact (noR e r (.inr rfl)).elim
  refine ⟨rfl, c, fun _ _ => False, [Slot.val (.ro (ns.map D.int))], rfl, S0, ?_⟩
  show (body (Slot.val (.ro (ns.map D.int)) :: List.replicate (m - 1) Slot.no)).post _ _ _ _ _
  rw [e]
  intro v σ' H' F' S'
  rcases S'.top with ⟨_, _, z, _⟩ | z
  · cases z
  · cases z; rfl
end DL
set_option Elab.async false
set_option linter.all false
set_option maxRecDepth 100000
set_option autoImplicit false
/-! DL16: comparisons as tests (written by gen16.py from DL9, DL13). -/
namespace DL
open PySem PySem.Spec PyProof.Rows L2
section
variable {X : Cx} {c : Ctx} {W : WX} {a b o e f : Expr} {ma mb md mf : ME} {pos apos : Pos}
def Bl2 (f : D → D → Option D) : Prop := ∀ a b d, f a b = some d → ∃ k, d = .bl k
theorem tt_imp {m : ME} {t : TE} (h : ∀ σ H Q, tD X.K X.mg c W m σ H Q → t σ H Q) (hb : ∀ δ d δ', m δ = .ok d δ' → ∃ k, d = .bl k) : ∀ σ H Q, tDT X.K X.mg c W (mT m) σ H Q → tTest t σ H Q := fun σ H Q ⟨F, δ, τ, S, q⟩ => by
  refine h σ H _ ⟨F, δ, τ, S, ?_⟩
  unfold mT at q
  rw [Er.post_bind] at q
  cases em : m δ with
  | stuck => rw [em] at q; exact q.elim
  | exc x δ' => rw [em] at q; exact q
  | ok d δ1 =>
    rw [em] at q
    obtain ⟨k, rfl⟩ := hb _ _ _ em
    intro v H' F' S'
    have := S'.top
    rcases this with ⟨_, _, z, _⟩ | z
    · cases z
    · cases z
      exact ⟨k, rfl, q H' F' S'.drop⟩
theorem bl2 {f : D → D → Option D} (h : Bl2 f) : ∀ δ d δ', m2 f ma mb δ = .ok d δ' → ∃ k, d = .bl k := fun δ d δ' e => by
  unfold m2 at e
  cases h1 : ma δ with
  | stuck => rw [h1] at e; cases e
  | exc x δ' => rw [h1] at e; cases e
  | ok d1 δ1 =>
    rw [h1] at e
    simp only [Er.bind] at e
    cases h2 : mb δ1 with
    | stuck => rw [h2] at e; cases e
    | exc x δ' => rw [h2] at e; cases e
    | ok d2 δ2 =>
      rw [h2] at e
      simp only [Er.bind] at e
      cases h3 : f (deref δ2 d1) (deref δ2 d2) with
      | none => rw [h3] at e; cases e
      | some u =>
        rw [h3] at e
        simp only [optE] at e
        cases e
        exact h _ _ _ h3
theorem bl_map {o : Option Bool} {g : Bool → Bool} {d : D} (h : o.map (fun k => D.bl (g k)) = some d) : ∃ k, d = .bl k := by
  cases o with
  | none => cases h
  | some k => cases h; exact ⟨_, rfl⟩
theorem bl_map' {o : Option Bool} {d : D} (h : o.map D.bl = some d) : ∃ k, d = .bl k := by
  cases o with
  | none => cases h
  | some k => cases h; exact ⟨_, rfl⟩
theorem bl_eqD : Bl2 eqD := fun _ _ _ h => bl_map' h
theorem bl_neD : Bl2 neD := fun _ _ _ h => bl_map h
theorem bl_isA : Bl2 isA := fun _ _ _ h => by unfold isA at h; first | exact bl_map' h | exact bl_map h
theorem bl_isnA : Bl2 isnA := fun _ _ _ h => by unfold isnA at h; first | exact bl_map' h | exact bl_map h
theorem bl_inD : Bl2 inD := fun _ _ _ h => bl_map' h
theorem bl_ninD : Bl2 ninD := fun _ _ _ h => bl_map h
theorem bl_dinD : Bl2 dinD := fun _ _ _ h => bl_map' h
theorem bl_dninD : Bl2 dninD := fun _ _ _ h => bl_map h
theorem bl_inA : Bl2 inA := fun a b d h => by
  unfold inA at h
  split at h
  · exact bl_dinD _ _ _ h
  · exact bl_inD _ _ _ h
theorem bl_ninA : Bl2 ninA := fun a b d h => by
  unfold ninA at h
  split at h
  · exact bl_dninD _ _ _ h
  · exact bl_ninD _ _ _ h
theorem bl_ltD : Bl2 ltD := fun a b d h => by cases a <;> cases b <;> first | (cases h; done) | (cases h; exact ⟨_, rfl⟩)
theorem bl_leD : Bl2 leD := fun a b d h => by cases a <;> cases b <;> first | (cases h; done) | (cases h; exact ⟨_, rfl⟩)
theorem bl_gtD : Bl2 gtD := fun a b d h => by cases a <;> cases b <;> first | (cases h; done) | (cases h; exact ⟨_, rfl⟩)
theorem bl_geD : Bl2 geD := fun a b d h => by cases a <;> cases b <;> first | (cases h; done) | (cases h; exact ⟨_, rfl⟩)
theorem blCh {f f' : D → D → Option D} {mc : ME} (h' : Bl2 f') : ∀ δ d δ', mChain f f' ma mb mc δ = .ok d δ' → ∃ k, d = .bl k := fun δ d δ' e => by
  unfold mChain at e
  cases h1 : ma δ with
  | stuck => rw [h1] at e; cases e
  | exc x δ' => rw [h1] at e; cases e
  | ok d1 δ1 =>
    rw [h1] at e
    simp only [Er.bind] at e
    cases h2 : mb δ1 with
    | stuck => rw [h2] at e; cases e
    | exc x δ' => rw [h2] at e; cases e
    | ok d2 δ2 =>
      rw [h2] at e
      simp only [Er.bind] at e
      cases h3 : f (deref δ2 d1) (deref δ2 d2) with
      | none => rw [h3] at e; cases e
      | some u =>
        rw [h3] at e
        cases u with
        | bl k =>
          cases k with
          | false => cases e; exact ⟨_, rfl⟩
          | true =>
            simp only at e
            cases h4 : mc δ2 with
            | stuck => rw [h4] at e; cases e
            | exc x δ' => rw [h4] at e; cases e
            | ok d3 δ3 =>
              rw [h4] at e
              simp only [Er.bind] at e
              cases h5 : f' (deref δ3 d2) (deref δ3 d3) with
              | none => rw [h5] at e; cases e
              | some u =>
                rw [h5] at e
                simp only [optE] at e
                cases e
                exact h' _ _ _ h5
        | _ => cases e
theorem pt_or {t t' : TT} (h : PT X e t) (h' : PT X e t') : PT X e (fun σ H Q => t σ H Q ∨ t' σ H Q) := ⟨fun pins s σ H Q I q => by
  rcases q with q | q
  · exact h.run pins s σ H Q I q
  · exact h'.run pins s σ H Q I q⟩

theorem dt_eq (hu : X.A.units + 64 < cLine) (ha : DE X c W a ma) (hb : DE X c W b mb) : DT X c W (.Compare a [.Eq] [b] pos) (mT (m2 eqD ma mb)) :=
  pt_imp (pt_cmpR (OpR.or op_eq (op_eqD hu)) ha hb (nomark _)) (tt_imp (m2_imp (fun F σ δ τ H v a w b d Q S ra rb e k => by
    unfold eqD at e
    cases q : eqB a b with
    | none => rw [q] at e; cases e
    | some t =>
      rw [q] at e
      cases e
      rcases eq_cases ra rb q with ⟨h1, h2⟩ | ⟨d, e, h1, h2, h3, h4, h5⟩
      · exact .inl ⟨h1, by rw [← h2]; exact k _ H S (.bl _)⟩
      · exact .inr ⟨d, e, h1, h2, h3, h4, by rw [← h5]; exact k _ H S (.bl _)⟩) ⟨fun i b => by unfold eqD; rw [eqB_ns1]; rfl, fun i a => by unfold eqD; rw [eqB_ns2]; rfl⟩) (bl2 bl_eqD))
theorem dt_ne (hu : X.A.units + 64 < cLine) (ha : DE X c W a ma) (hb : DE X c W b mb) : DT X c W (.Compare a [.NotEq] [b] pos) (mT (m2 neD ma mb)) :=
  pt_imp (pt_cmpR (OpR.or op_ne (op_neD hu)) ha hb (nomark _)) (tt_imp (m2_imp (fun F σ δ τ H v a w b d Q S ra rb e k => by
    unfold neD at e
    cases q : eqB a b with
    | none => rw [q] at e; cases e
    | some t =>
      rw [q] at e
      cases e
      rcases eq_cases ra rb q with ⟨h1, h2⟩ | ⟨d, e, h1, h2, h3, h4, h5⟩
      · exact .inl ⟨h1, by rw [← h2]; exact k _ H S (.bl _)⟩
      · exact .inr ⟨d, e, h1, h2, h3, h4, by rw [← h5]; exact k _ H S (.bl _)⟩) ⟨fun i b => by unfold neD; rw [eqB_ns1]; rfl, fun i a => by unfold neD; rw [eqB_ns2]; rfl⟩) (bl2 bl_neD))
theorem dt_lt (ha : DE X c W a ma) (hb : DE X c W b mb) : DT X c W (.Compare a [.Lt] [b] pos) (mT (m2 ltD ma mb)) := pt_imp (pt_cmpR op_ltA ha hb (nomark _)) (tt_imp (m2_imp o_lt n_lt) (bl2 bl_ltD))
theorem dt_le (ha : DE X c W a ma) (hb : DE X c W b mb) : DT X c W (.Compare a [.LtE] [b] pos) (mT (m2 leD ma mb)) := pt_imp (pt_cmpR op_leA ha hb (nomark _)) (tt_imp (m2_imp o_le n_le) (bl2 bl_leD))
theorem dt_gt (ha : DE X c W a ma) (hb : DE X c W b mb) : DT X c W (.Compare a [.Gt] [b] pos) (mT (m2 gtD ma mb)) := pt_imp (pt_cmpR op_gtA ha hb (nomark _)) (tt_imp (m2_imp o_gt n_gt) (bl2 bl_gtD))
theorem dt_ge (ha : DE X c W a ma) (hb : DE X c W b mb) : DT X c W (.Compare a [.GtE] [b] pos) (mT (m2 geD ma mb)) := pt_imp (pt_cmpR op_geA ha hb (nomark _)) (tt_imp (m2_imp o_ge n_ge) (bl2 bl_geD))
theorem dt_is (ha : DE X c W a ma) (hb : DE X c W b mb) : DT X c W (.Compare a [.Is] [b] pos) (mT (m2 isA ma mb)) :=
  pt_imp (pt_cmpR op_isAny ha hb (nomark _)) (tt_imp (m2_imp (fun F σ δ τ H v a w b d Q S ra rb e k => by
    unfold isA at e
    cases q : isB a b with
    | none => rw [q] at e; cases e
    | some t =>
      rw [q] at e
      cases e
      obtain ⟨h1, h2⟩ := is_val ra rb q
      exact ⟨h1, by rw [h2]; exact k _ H S (.bl _)⟩) ⟨fun i b => by unfold isA; rw [n_is.1]; rfl, fun i a => by unfold isA; rw [n_is.2]; rfl⟩) (bl2 bl_isA))
theorem dt_isn (ha : DE X c W a ma) (hb : DE X c W b mb) : DT X c W (.Compare a [.IsNot] [b] pos) (mT (m2 isnA ma mb)) :=
  pt_imp (pt_cmpR op_isnAny ha hb (nomark _)) (tt_imp (m2_imp (fun F σ δ τ H v a w b d Q S ra rb e k => by
    unfold isnA at e
    cases q : isB a b with
    | none => rw [q] at e; cases e
    | some t =>
      rw [q] at e
      cases e
      obtain ⟨h1, h2⟩ := is_val ra rb q
      exact ⟨h1, by rw [h2]; exact k _ H S (.bl _)⟩) ⟨fun i b => by unfold isnA; rw [n_is.1]; rfl, fun i a => by unfold isnA; rw [n_is.2]; rfl⟩) (bl2 bl_isnA))
theorem dt_in (hu : X.A.units + 65 < cLine) (ha : DE X c W a ma) (hb : DE X c W b mb) (hm : behindInMarks .In b = false := by with_unfolding_all rfl) : DT X c W (.Compare a [.In] [b] pos) (mT (m2 inD ma mb)) :=
  pt_imp (pt_cmpR (OpR.or op_in_str (op_inD hu)) ha hb hm) (tt_imp (m2_imp (fun F σ δ τ H v a w b d Q S ra rb e k => by
    unfold inD at e
    cases q : inB a b with
    | none => rw [q] at e; cases e
    | some t =>
      rw [q] at e
      cases e
      rcases in_cases ra rb q with ⟨i, j, rfl, rfl, rfl⟩ | ⟨d, e, h1, h2, h3, h4, h5⟩
      · exact .inl ⟨_, _, rfl, rfl, k _ H S (.bl _)⟩
      · exact .inr ⟨d, e, h1, h2, h3, h4, by rw [← h5]; exact k _ H S (.bl _)⟩) ⟨fun i b => by unfold inD; rw [n_in.1]; rfl, fun i a => by unfold inD; rw [n_in.2]; rfl⟩) (bl2 bl_inD))
theorem dt_nin (hu : X.A.units + 65 < cLine) (ha : DE X c W a ma) (hb : DE X c W b mb) (hm : behindInMarks .NotIn b = false := by with_unfolding_all rfl) : DT X c W (.Compare a [.NotIn] [b] pos) (mT (m2 ninD ma mb)) :=
  pt_imp (pt_cmpR (OpR.or op_notIn_str (op_notInD hu)) ha hb hm) (tt_imp (m2_imp (fun F σ δ τ H v a w b d Q S ra rb e k => by
    unfold ninD at e
    cases q : inB a b with
    | none => rw [q] at e; cases e
    | some t =>
      rw [q] at e
      cases e
      rcases in_cases ra rb q with ⟨i, j, rfl, rfl, rfl⟩ | ⟨d, e, h1, h2, h3, h4, h5⟩
      · exact .inl ⟨_, _, rfl, rfl, k _ H S (.bl _)⟩
      · exact .inr ⟨d, e, h1, h2, h3, h4, by rw [← h5]; exact k _ H S (.bl _)⟩) ⟨fun i b => by unfold ninD; rw [n_in.1]; rfl, fun i a => by unfold ninD; rw [n_in.2]; rfl⟩) (bl2 bl_ninD))
theorem dt_din (hu : X.A.units + 1 < cLine) (ha : DE X c W a ma) (hb : DE X c W b mb) (hm : behindInMarks .In b = false := by with_unfolding_all rfl) : DT X c W (.Compare a [.In] [b] pos) (mT (m2 dinD ma mb)) :=
  pt_imp (pt_cmp (pc_din hu ha hb) hm) (tt_imp (m2_imp (r := fun y x H Q => ∃ p o, x = .ref p ∧ DGet H p y o ∧ Q (.bl o.isSome) H) (fun F σ δ τ H v a w b d Q S ra rb e k => by
    unfold dinD dinB at e
    split at e
    · rename_i kvs
      cases q : keyD a with
      | none => rw [q] at e; cases e
      | some kk =>
        rw [q] at e
        simp only [Option.map_some, Option.some.injEq] at e
        subst e
        obtain ⟨p, rfl, h⟩ := dget_of rb ra q
        rcases h with ⟨h, g⟩ | ⟨d', u, h1, g, h3⟩
        · rw [h] at k; exact ⟨p, _, rfl, g, k _ H S (.bl _)⟩
        · rw [h1] at k; exact ⟨p, _, rfl, g, k _ H S (.bl _)⟩
    · cases e) ⟨fun _ b => by cases b <;> rfl, fun _ a => rfl⟩) (bl2 bl_dinD))
theorem dt_dnin (hu : X.A.units + 1 < cLine) (ha : DE X c W a ma) (hb : DE X c W b mb) (hm : behindInMarks .NotIn b = false := by with_unfolding_all rfl) : DT X c W (.Compare a [.NotIn] [b] pos) (mT (m2 dninD ma mb)) :=
  pt_imp (pt_cmp (pc_dnotin hu ha hb) hm) (tt_imp (m2_imp (r := fun y x H Q => ∃ p o, x = .ref p ∧ DGet H p y o ∧ Q (.bl (!o.isSome)) H) (fun F σ δ τ H v a w b d Q S ra rb e k => by
    unfold dninD dinB at e
    split at e
    · rename_i kvs
      cases q : keyD a with
      | none => rw [q] at e; cases e
      | some kk =>
        rw [q] at e
        simp only [Option.map_some, Option.some.injEq] at e
        subst e
        obtain ⟨p, rfl, h⟩ := dget_of rb ra q
        rcases h with ⟨h, g⟩ | ⟨d', u, h1, g, h3⟩
        · rw [h] at k; exact ⟨p, _, rfl, g, k _ H S (.bl _)⟩
        · rw [h1] at k; exact ⟨p, _, rfl, g, k _ H S (.bl _)⟩
    · cases e) ⟨fun _ b => by cases b <;> rfl, fun _ a => rfl⟩) (bl2 bl_dninD))
theorem dt_lele {d : Expr} {md : ME} (ha : DE X c W a ma) (hb : DE X c W b mb) (hd : DE X c W d md) (hm : lastMarks [.LtE, .LtE] [b, d] = false := by with_unfolding_all rfl) : DT X c W (.Compare a [.LtE, .LtE] [b, d] pos) (mT (mChain leD leD ma mb md)) := pt_imp (pt_chain op_leA op_leA ha hb hd hm) (tt_imp (chain_imp o_le o_le n_le n_le) (blCh bl_leD))
theorem dt_lelt {d : Expr} {md : ME} (ha : DE X c W a ma) (hb : DE X c W b mb) (hd : DE X c W d md) (hm : lastMarks [.LtE, .Lt] [b, d] = false := by with_unfolding_all rfl) : DT X c W (.Compare a [.LtE, .Lt] [b, d] pos) (mT (mChain leD ltD ma mb md)) := pt_imp (pt_chain op_leA op_ltA ha hb hd hm) (tt_imp (chain_imp o_le o_lt n_le n_lt) (blCh bl_ltD))
theorem dt_ltle {d : Expr} {md : ME} (ha : DE X c W a ma) (hb : DE X c W b mb) (hd : DE X c W d md) (hm : lastMarks [.Lt, .LtE] [b, d] = false := by with_unfolding_all rfl) : DT X c W (.Compare a [.Lt, .LtE] [b, d] pos) (mT (mChain ltD leD ma mb md)) := pt_imp (pt_chain op_ltA op_leA ha hb hd hm) (tt_imp (chain_imp o_lt o_le n_lt n_le) (blCh bl_leD))
theorem dt_ltlt {d : Expr} {md : ME} (ha : DE X c W a ma) (hb : DE X c W b mb) (hd : DE X c W d md) (hm : lastMarks [.Lt, .Lt] [b, d] = false := by with_unfolding_all rfl) : DT X c W (.Compare a [.Lt, .Lt] [b, d] pos) (mT (mChain ltD ltD ma mb md)) := pt_imp (pt_chain op_ltA op_ltA ha hb hd hm) (tt_imp (chain_imp o_lt o_lt n_lt n_lt) (blCh bl_ltD))
theorem tb_back {m : ME} {σ : L2.St} {H : Hp} {Q : Bool → Hp → Prop} (hb : ∀ δ d δ', m δ = .ok d δ' → ∃ k, d = .bl k) (h : tD X.K X.mg c W m σ H fun x H' => ∃ k, x = .bl k ∧ Q k H') : tDT X.K X.mg c W (mT m) σ H Q := by
  obtain ⟨F, δ, τ, S, q⟩ := h
  refine ⟨F, δ, τ, S, ?_⟩
  unfold mT
  rw [Er.post_bind]
  cases em : m δ with
  | stuck => rw [em] at q; exact q.elim
  | exc x δ' => rw [em] at q; exact q
  | ok d δ1 =>
    rw [em] at q
    obtain ⟨k, rfl⟩ := hb _ _ _ em
    show ∀ H' F', SRF X.K c F' σ δ1 τ H' → Q k H'
    intro H' F' S'
    obtain ⟨k', z, r⟩ := q (.bl k) H' F' (S'.push (.inr (.bl k)))
    cases z
    exact r
theorem dt_inA (hu : X.A.units + 65 < cLine) (ha : DE X c W a ma) (hb : DE X c W b mb) (hm : behindInMarks .In b = false := by with_unfolding_all rfl) : DT X c W (.Compare a [.In] [b] pos) (mT (m2 inA ma mb)) :=
  pt_imp (pt_or (dt_din (by omega) ha hb hm) (dt_in hu ha hb hm)) fun σ H Q h => by
    rcases tt_imp (t := fun σ H Q => tD X.K X.mg c W (m2 dinD ma mb) σ H Q ∨ tD X.K X.mg c W (m2 inD ma mb) σ H Q) (fun σ H Q h => m2_split (p := fun _ b => isDic b) (fun _ _ => rfl) h) (bl2 bl_inA) σ H Q h with h | h
    · exact .inl (tb_back (bl2 bl_dinD) h)
    · exact .inr (tb_back (bl2 bl_inD) h)
theorem dt_ninA (hu : X.A.units + 65 < cLine) (ha : DE X c W a ma) (hb : DE X c W b mb) (hm : behindInMarks .NotIn b = false := by with_unfolding_all rfl) : DT X c W (.Compare a [.NotIn] [b] pos) (mT (m2 ninA ma mb)) :=
  pt_imp (pt_or (dt_dnin (by omega) ha hb hm) (dt_nin hu ha hb hm)) fun σ H Q h => by
    rcases tt_imp (t := fun σ H Q => tD X.K X.mg c W (m2 dninD ma mb) σ H Q ∨ tD X.K X.mg c W (m2 ninD ma mb) σ H Q) (fun σ H Q h => m2_split (p := fun _ b => isDic b) (fun _ _ => rfl) h) (bl2 bl_ninA) σ H Q h with h | h
    · exact .inl (tb_back (bl2 bl_dninD) h)
    · exact .inr (tb_back (bl2 bl_ninD) h)
theorem de_gs {x z : Str} {p : Pos} (hg : Gl X x) (h : ∃ t, X.mg x = some (.str z t)) (hdb : (x == ("__debug__" : Str)) = false := by decide) : DE X c W (.Name x p) (mC (.str z)) := by
  obtain ⟨t, h⟩ := h
  exact de_c (pe_glob (v := .str z) hg h ⟨t, rfl⟩ hdb) fun _ _ => .str _
theorem de_gi {x : Str} {i : Int} {p : Pos} (hg : Gl X x) (h : ∃ t, X.mg x = some (.int i t)) (hdb : (x == ("__debug__" : Str)) = false := by decide) : DE X c W (.Name x p) (mC (.int i)) := by
  obtain ⟨t, h⟩ := h
  exact de_c (pe_glob (v := .int i) hg h ⟨t, rfl⟩ hdb) fun _ _ => .int _
end
end DL
set_option Elab.async false
set_option linter.all false
set_option maxRecDepth 100000
set_option autoImplicit false
/-! DL17: keywords' places by binding, recursion's bottom, the walk to the law. -/
namespace DL
open PySem PySem.Spec PyProof.Rows L2
theorem kpick_of {K : PySem.W.Frag} {x qual : Str} {st : Stmt} {f : Addr} {fd : FuncData} {ps ks : List Str} {n : Nat} {is : List Nat} (F : Fun K x qual st f fd)
    (h : ∀ (kV doc pm : Value) (an : Option Addr) (cdv ct : Value) (us ws : List Value), us.length = n → ws.length = ks.length → bindArgs (PySem.W.fnOf x qual (defArgs st) (defBody st) (defScope st) .none kV doc pm an cdv ct) ⟨us, ks.zip ws⟩ = pure (ps.zip (pick (us ++ ws) is))) : KPick K fd ps n ks is := by
  obtain ⟨oc, od, kV, doc, pm, an, cdv, ct, osl, rfl, lk, hcd⟩ := F.ex
  exact fun s us ws _ h1 h2 => .of_eq (h kV doc pm an cdv ct us ws h1 h2)
theorem good_zero {P : Program} {w : World} {K : PySem.W.Frag} {mg : Str → Option Value} {base : Heap} {x : Str} {st : Stmt} {N ps : List Str} (d : DefAt K mg x st) (S : FnScope N ps (defScope st)) (hb : ∀ (f : Addr) (cdv : Value) (A : Around) (outer : List Env) (s : Shared) (H : Hp) (E : XK) (c : Ctx),
      DSs (cxOf (L2.CX P w) P w K mg base N x (defScope st) f cdv A outer s H E) c (fun cls d _ H => E cls d H) (defBody st) fun _ => .stuck) {k : Nat} : Good P w K mg base (k + 1) x st ps N.length (fun _ => .stuck) :=
  good_mk d S fun f cdv A outer s H E c _ => hb f cdv A outer s H E c
theorem dss_stuck {X : Cx} {c : Ctx} {W : WX} {b : List Stmt} : DSs X c W b fun _ => .stuck := ⟨fun pins s σ H D I h => by
  obtain ⟨F, δ, τ, S, u, h⟩ := h
  exact h.elim⟩
/-- what the walk must show of a program's top: the texts, then the law -/
theorem walkD {l : PySem.W.OpenLaw} {q : Program} {loose : List Str} {XP : (Str → Option Value) → Heap → Prop} {YP : World → Heap → Prop} {d : DefRec} {K : Params → PySem.W.Frag} {n k m : Nat} {st : Stmt} {x : Str} {body : MS} (hn : l.most = some n) (hn2 : n ≤ sizeLine) (hdf : d.params.defaults = []) (hr : Room k callerA)
    (hY : ∀ (w : World) (h : Heap), YP w h → (K w.params).In h)
    (F : ∀ (w : World) (mg : Str → Option Value) (h : Heap), (K w.params).In h → h.Ns mainGlobals mg → XP mg h → ∀ base : Heap, (K w.params).In base → base.Ns mainGlobals mg → Good l.prog w (K w.params) mg base k d.name st [x] m body)
    (B : ∀ fd : FuncData, (∃ (K' : PySem.W.Frag) (f : Addr), Fun K' d.name d.name st f fd) → ∀ (s : Shared) (u : Value), BindsTo s fd ⟨[u], []⟩ [(x, u)])
    (hb : ∀ ns : List Int, ns.length ≤ n → ∃ δ, body (Slot.val (.ro (ns.map D.int)) :: List.replicate (m - 1) Slot.no) = .ret (.val (.bl true)) δ) :
    PySem.W.WalkO q loose XP YP l.row.toRowW d [] (fun f vs => PySem.call f vs) := by
  refine Att.attach_call hn hdf fun w s₀ s₁ mg mb fa o pm cd doc a vs ns G Y ho hd hcd hmg hobj hints hlen hg => ?_
  have KX := hY w _ Y
  have ext : ∀ base : Heap, (K w.params).In base → base.Ns mainGlobals mg → ∃ fd, Fun (K w.params) d.name d.name st fa fd ∧ FnOk l.prog w (K w.params) mg base (L2.CX l.prog w) k fa fd [x] (spD (K w.params) mg m 1 body) := fun base b1 b2 => by
    obtain ⟨f, fd, g, F1, F2⟩ := (F w mg _ KX G.T.g G.X base b1 b2).ex
    rw [hmg] at g
    cases g
    exact ⟨fd, F1, F2⟩
  obtain ⟨fd, F1, _⟩ := ext _ KX G.T.g
  have same : ∀ fd', Fun (K w.params) d.name d.name st fa fd' → fd' = fd := fun fd' F' => by
    obtain ⟨_, _, _, _, _, _, _, _, _, _, lk, _⟩ := F'.ex
    obtain ⟨_, _, _, _, _, _, _, _, _, _, lk2, _⟩ := F1.ex
    rw [lk] at lk2
    cases lk2
    rfl
  refine law_call (CX := L2.CX l.prog w) (sp := spD (K w.params) mg m 1 body) KX G.T.g G.T.b G.T.builtins G.T.nolimit hg hobj hints (Nat.le_trans hlen hn2) hr (fun base b1 b2 => ?_) (B fd ⟨_, _, F1⟩) (fun H hO hS => spD_law hb H a ns hlen hO hS) fun H e s' z => (by obtain ⟨_, _, _, _, _, _, _, _, _, _, _, _, z⟩ := z; exact z)
  obtain ⟨fd', F1', F2⟩ := ext base b1 b2
  cases same fd' F1'
  exact F2
theorem law_int {lv : List (Str × PySem.W.WData)} {mg : Str → Option Value} {h : Heap} {x : Str} {i : Int} (L : PySem.W.LooseAre lv mg h) (m : (x, PySem.W.WData.int i) ∈ lv) : ∃ t, mg x = some (.int i t) := by
  obtain ⟨v, e, r⟩ := L.val _ m
  cases r
  exact ⟨_, e⟩
theorem exm_mk2 {K : PySem.W.Frag} {h : Heap} {mg : Str → Option Value} {y x : Str} {b : Bool} {C D : Addr} (X : K.In h) (G : h.Ns mainGlobals mg) (a : PySem.W.nsIn K mainGlobals y = some (some (.ref C))) (a2 : PySem.W.nsIn K mainGlobals x = some (some (.ref D))) (h1 : PySem.W.subIn K (.ref D) (.type "BaseException") = some true) (h2 : PySem.W.isClsIn K D = true) (h3 : PySem.W.typeIn K (.ref D) = some (.type "type")) (h4 : PySem.W.subIn K (.ref C) (.ref D) = some b) : ExmAt K mg y x b := by
  refine exm_mk X G a a2 ?_
  have e1 : (PySem.W.subIn K (.ref D) (.type "BaseException") == some true) = true := by rw [h1] <;> rfl
  have e2 : ((PySem.W.clsIn K D).isSome && PySem.W.typeIn K (.ref D) == some (.type "type")) = true := by
    have h2' : (PySem.W.clsIn K D).isSome = true := h2
    rw [h2', h3] <;> rfl
  show (if (PySem.W.subIn K (.ref D) (.type "BaseException") == some true) = true then (if ((PySem.W.clsIn K D).isSome && PySem.W.typeIn K (.ref D) == some (.type "type")) = true then PySem.W.subIn K (.ref C) (.ref D) else none) else none) = some b
  rw [if_pos e1, if_pos e2]
  exact h4
theorem con_s {K : PySem.W.Frag} {h : Heap} {mg : Str → Option Value} {x z : Str} {t : Tok} (X : K.In h) (G : h.Ns mainGlobals mg) (a : PySem.W.nsIn K mainGlobals x = some (some (.str z t))) : ∃ t, mg x = some (.str z t) := ⟨_, PySem.W.mg_of X G a⟩
theorem con_i {K : PySem.W.Frag} {h : Heap} {mg : Str → Option Value} {x : Str} {z : Int} {t : Tok} (X : K.In h) (G : h.Ns mainGlobals mg) (a : PySem.W.nsIn K mainGlobals x = some (some (.int z t))) : ∃ t, mg x = some (.int z t) := ⟨_, PySem.W.mg_of X G a⟩
theorem con_g {K : PySem.W.Frag} {h : Heap} {mg : Str → Option Value} {x : Str} {D : Addr} (X : K.In h) (G : h.Ns mainGlobals mg) (a : PySem.W.nsIn K mainGlobals x = some (some (.ref D))) : ∃ D, mg x = some (.ref D) := ⟨_, PySem.W.mg_of X G a⟩
end DL
set_option Elab.async false
set_option linter.all false
set_option maxRecDepth 100000
set_option autoImplicit false
set_option maxHeartbeats 0
/-! DL18: calls, told plainly. -/
namespace DL
open PySem PySem.Spec PyProof.Rows L2
theorem argsS_vals {δ : Dl} : ∀ {ds : List D}, ds.all unslot1 = true → argsS δ ds = some (ds.map Slot.val)
  | [], _ => rfl
  | d :: ds, h => by
    rw [List.all_cons, Bool.and_eq_true] at h
    unfold argsS
    rw [argsS_vals h.2]
    cases d <;> first | rfl | cases h.1
theorem slotsOf_vals : ∀ {ds : List D}, ds.all unslot1 = true → slotsOf ds = []
  | [], _ => rfl
  | d :: ds, h => by
    rw [List.all_cons, Bool.and_eq_true] at h
    have := slotsOf_vals h.2
    cases d <;> first | exact this | cases h.1
theorem posOf_vals {i : Nat} : ∀ {ds : List D}, ds.all unslot1 = true → posOf i ds = none
  | [], _ => rfl
  | d :: ds, h => by
    rw [List.all_cons, Bool.and_eq_true] at h
    have := posOf_vals (i := i) h.2
    cases d <;> first | (show (posOf i ds).map (· + 1) = none; rw [this]; rfl) | cases h.1
theorem backGo_vals {ds : List D} {δ' : Dl} (h : ds.all unslot1 = true) : ∀ {i : Nat} {δ : Dl}, backGo ds δ' i δ = δ
  | _, [] => rfl
  | i, s :: r => by
    unfold backGo
    rw [backGo_vals h]
    congr 1
    unfold backSlot
    rw [posOf_vals h]
section
variable {m np : Nat} {body : MS} {ms : ML} {δ δ1 δ' : Dl} {ds : List D} {d : D} {j : Nat} {r r' : R} {mk : R → Slot} {rest : Dl}
theorem call_val (hms : ms δ = .ok ds δ1) (hds : ds.all unslot1 = true) (hl : ds.length = np) (hb : body (ds.map Slot.val ++ List.replicate (m - np) Slot.no) = .ret (.val d) δ') (hd : unslot1 d = true) : mCall m np body [] ms δ = .ok d δ1 := by
  unfold mCall mCallG
  simp only [hms, Er.bind, List.append_nil, argsS_vals hds, slotsOf_vals hds, List.nodup_nil, hl, and_self, if_true, hb, hd, backGo_vals hds]
theorem call_exc {x : Ex} (hms : ms δ = .ok ds δ1) (hds : ds.all unslot1 = true) (hl : ds.length = np) (hb : body (ds.map Slot.val ++ List.replicate (m - np) Slot.no) = .exc x δ') : mCall m np body [] ms δ = .exc x δ1 := by
  unfold mCall mCallG
  simp only [hms, Er.bind, List.append_nil, argsS_vals hds, slotsOf_vals hds, List.nodup_nil, hl, and_self, if_true, hb, backGo_vals hds]
theorem callF_own (hms : ms δ = .ok ds δ1) (hds : ds.all unslot1 = true) (hl : ds.length = np) (hb : body (ds.map Slot.val ++ List.replicate (m - np) Slot.no) = .ret (.own r) δ') (hδ : δ1.length = δ.length) : mCallF m np body [] ms δ = .ok r δ1 := by
  unfold mCallF mCallG
  simp only [hms, Er.bind, List.append_nil, argsS_vals hds, slotsOf_vals hds, List.nodup_nil, hl, and_self, if_true, hb, backGo_vals hds, hδ]
theorem back_jar (hmk : mk = Slot.own ∨ mk = Slot.bor) (hds : ds.all unslot1 = true) (h : δ[j]? = some (mk r)) : backGo (.slot j :: ds) (.bor r' :: rest) 0 δ = δ.set j (mk r') := by
  apply List.ext_getElem?
  intro i
  rw [backGo_get, Nat.zero_add, List.getElem?_set]
  by_cases hi : j = i
  · subst hi
    have hl : j < δ.length := (List.getElem?_eq_some_iff.mp h).1
    rw [if_pos rfl, if_pos hl, h]
    unfold backSlot
    simp only [Option.map_some, posOf, if_pos, List.getElem?_cons_zero]
    rcases hmk with rfl | rfl <;> rfl
  · rw [if_neg hi]
    cases e : δ[i]? with
    | none => rfl
    | some s =>
      have : posOf i (.slot j :: ds) = none := by
        show (if i = j then some 0 else (posOf i ds).map (· + 1)) = none
        rw [if_neg fun q => hi q.symm, posOf_vals hds]
        rfl
      simp only [Option.map_some, backSlot, this]
theorem call_jar (hmk : mk = Slot.own ∨ mk = Slot.bor) (hms : ms δ = .ok (.slot j :: ds) δ) (hds : ds.all unslot1 = true) (hl : ds.length + 1 = np) (h : δ[j]? = some (mk r)) (hb : body (.bor r :: ds.map Slot.val ++ List.replicate (m - np) Slot.no) = .ret (.val d) (.bor r' :: rest)) (hd : unslot1 d = true) :
    mCall m np body [] ms δ = .ok d (δ.set j (mk r')) := by
  have ha : argsS δ (.slot j :: ds) = some (.bor r :: ds.map Slot.val) := by
    unfold argsS
    rw [argsS_vals hds]
    unfold argS
    simp only
    rw [h]
    rcases hmk with rfl | rfl <;> rfl
  have hn : (slotsOf (.slot j :: ds)).Nodup := by
    show (j :: slotsOf ds).Nodup
    rw [slotsOf_vals hds]
    simp
  unfold mCall mCallG
  simp only [hms, Er.bind, List.append_nil, ha, hn, List.length_cons, hl, and_self, if_true, hb, hd, back_jar hmk hds h]
end
/-- a jar: two whole numbers -/
abbrev jar (a b : Int) : R := .lst [.int a, .int b]
theorem log_small {z : Int} {n : Nat} (h0 : 0 ≤ z) (h : z < (2 : Int) ^ n) : z.natAbs.log2 ≤ n := by
  have hz : z.natAbs < 2 ^ n := by
    have h1 : ((z.natAbs : Nat) : Int) = z := by omega
    have h2 : (((2 : Nat) ^ n : Nat) : Int) = (2 : Int) ^ n := by push_cast; rfl
    omega
  by_cases h0 : z.natAbs = 0
  · rw [h0]; simp
  · exact Nat.le_of_lt ((Nat.log2_lt h0).mpr hz)
/-! ### what each meaning gives, applied -/
section
variable {δ δ1 δ2 : Dl} {d e : D} {ma mb mc : ME} {ms ml : ML} {f g : D → D → Option D} {f1 : D → Option D} {fl : List D → Option D} {i : Nat} {t u : MT} {a b : MS} {α β : Type} {o : Out}
theorem ev_C : mC d δ = .ok d δ := rfl
def slotV : Option Slot → Nat → Dl → Er D
  | some (.val d), _, δ => .ok d δ
  | some (.own _), i, δ => .ok (.slot i) δ
  | some (.bor _), i, δ => .ok (.slot i) δ
  | _, _, _ => .stuck
theorem ev_V : mV i δ = slotV δ[i]? i δ := by
  unfold mV slotV
  cases δ[i]? with
  | none => rfl
  | some s => cases s <;> rfl
theorem sv_val : slotV (some (.val d)) i δ = .ok d δ := rfl
theorem sv_own {r : R} : slotV (some (.own r)) i δ = .ok (.slot i) δ := rfl
theorem sv_bor {r : R} : slotV (some (.bor r)) i δ = .ok (.slot i) δ := rfl
theorem ev_1 : m1 f1 ma δ = (ma δ).bind fun a δ1 => optE (f1 (deref δ1 a)) δ1 := rfl
theorem ev_2 : m2 f ma mb δ = (ma δ).bind fun a δ1 => (mb δ1).bind fun b δ2 => optE (f (deref δ2 a) (deref δ2 b)) δ2 := rfl
theorem ev_nil : mNil δ = .ok [] δ := rfl
theorem ev_cons : mCons ma ms δ = (ma δ).bind fun a δ1 => (ms δ1).bind fun r δ2 => .ok (a :: r) δ2 := rfl
theorem ev_A : mA fl ms δ = (ms δ).bind fun ds δ1 => optE (fl (ds.map (deref δ1))) δ1 := rfl
theorem ev_If : mIf t ma mb δ = (t δ).bind fun k δ1 => if k = true then ma δ1 else mb δ1 := rfl
theorem ev_T : mT ma δ = (ma δ).bind fun a δ1 => optE (truD (deref δ1 a)) δ1 := rfl
theorem ev_Or : mOr ma mb δ = (ma δ).bind fun a δ1 => (optE (truD (deref δ1 a)) δ1).bind fun k δ2 => if k = true then .ok a δ2 else mb δ2 := rfl
theorem ev_And : mAnd ma mb δ = (ma δ).bind fun a δ1 => (optE (truD (deref δ1 a)) δ1).bind fun k δ2 => if k = true then mb δ2 else .ok a δ2 := rfl
theorem ev_Not : mNot ma δ = (ma δ).bind fun a δ1 => (optE (truD (deref δ1 a)) δ1).bind fun k δ2 => .ok (.bl (!k)) δ2 := rfl
theorem ev_TOr : mTOr t u δ = (t δ).bind fun k δ1 => if k = true then .ok true δ1 else u δ1 := rfl
theorem ev_TAnd : mTAnd t u δ = (t δ).bind fun k δ1 => if k = true then u δ1 else .ok false δ1 := rfl
theorem ev_TNot : mTNot t δ = (t δ).bind fun k δ1 => .ok (!k) δ1 := rfl
theorem ev_Tup : mTup ms δ = (ms δ).bind fun ds δ1 => if ds.all unslot1 = true ∧ ds.length ≤ sizeLine then .ok (.tup ds) δ1 else .stuck := rfl
theorem ev_Lst : mLst ms δ = (ms δ).bind fun ds δ1 => if ds.all unslot1 = true ∧ ds.length ≤ sizeLine then .ok (.lst ds) δ1 else .stuck := rfl
theorem ev_LstF : mLstF ms δ = (ms δ).bind fun ds δ1 => if ds.all unslot1 = true ∧ ds.length ≤ sizeLine ∧ δ1.length = δ.length then .ok (.lst ds) δ1 else .stuck := rfl
theorem ev_Fz {m : Dl → Er R} : mFz m δ = (m δ).bind fun r δ1 => optE (frz r) δ1 := rfl
theorem ev_Str1 {h : Str → List D → Option D} {z : Str} (e : ma δ = .ok (.str z) δ1) : mStr1 h ma ms δ = (ms δ1).bind fun ds δ2 => optE (h z (ds.map (deref δ2))) δ2 := by unfold mStr1; rw [e]; rfl
theorem ev_Str1C {h : Str → List D → Option D} {z : Str} : mStr1 h (mC (.str z)) ms δ = (ms δ).bind fun ds δ2 => optE (h z (ds.map (deref δ2))) δ2 := rfl
theorem ev_bind {x : α} {k : α → Dl → Er β} : (Er.ok x δ).bind k = k x δ := rfl
theorem ev_bindX {x : Ex} {k : α → Dl → Er β} : (Er.exc x δ : Er α).bind k = .exc x δ := rfl
theorem ev_out {x : α} {k : α → Dl → Out} : (Er.ok x δ).out k = k x δ := rfl
theorem ev_outX {x : Ex} {k : α → Dl → Out} : (Er.exc x δ : Er α).out k = .exc x δ := rfl
theorem ev_opt {x : α} : optE (some x) δ = .ok x δ := rfl
def seqO : Out → MS → Out
  | .nx δ1, b => b δ1
  | o, _ => o
theorem ev_seq : mSeq a b δ = seqO (a δ) b := by unfold mSeq seqO; cases a δ <;> rfl
theorem so_nx : seqO (.nx δ) b = b δ := rfl
theorem so_ret {r : Ret} : seqO (.ret r δ) b = .ret r δ := rfl
theorem so_exc {x : Ex} : seqO (.exc x δ) b = .exc x δ := rfl
theorem ev_skip : mSkip δ = .nx δ := rfl
theorem ev_ifS : mIfS t a b δ = (t δ).out fun k δ1 => if k = true then a δ1 else b δ1 := rfl
def asgO : Option Dl → Out
  | some δ => .nx δ
  | none => .stuck
theorem ao_some : asgO (some δ) = .nx δ := rfl
theorem ev_asg {h : MG} : mAsg ma h δ = (ma δ).out fun d δ1 => asgO (h d δ1) := by
  unfold mAsg asgO
  rfl
theorem ev_gN : gN i d δ = if nobor δ i = true ∧ unslot1 d = true then some (δ.set i (.val d)) else none := rfl
def slotN : Option Slot → Bool
  | some (.bor _) => false
  | some _ => true
  | none => false
theorem ev_nob : nobor δ i = slotN δ[i]? := by
  unfold nobor slotN
  cases δ[i]? with
  | none => rfl
  | some s => cases s <;> rfl
theorem sn_no : slotN (some .no) = true := rfl
theorem sn_val : slotN (some (.val d)) = true := rfl
theorem sn_own {r : R} : slotN (some (.own r)) = true := rfl
theorem ev_own {m : Dl → Er R} : mOwn m i δ = (m δ).out fun r δ1 => if nobor δ1 i = true then .nx (δ1.set i (.own r)) else .stuck := rfl
theorem ev_par {is : List Nat} : mPar is ms δ = (ms δ).out fun ds δ1 => asgO (gTl is ds δ1) := rfl
theorem ev_gTl0 : gTl [] [] δ = some δ := rfl
theorem ev_gTl1 {is : List Nat} {ds : List D} : gTl (i :: is) (d :: ds) δ = (gN i d δ).bind (gTl is ds) := rfl
theorem ev_gT {is : List Nat} {ds : List D} : gT is (.tup ds) δ = gTl is ds δ := rfl
theorem ev_ret : mRet ma δ = (ma δ).out fun d δ1 => if unslot1 d = true then .ret (.val d) δ1 else .stuck := rfl
theorem ev_retF {m : Dl → Er R} : mRetF m δ = (m δ).out fun r δ1 => .ret (.own r) δ1 := rfl
theorem ev_expr : mExpr ma δ = (ma δ).out fun _ δ1 => .nx δ1 := rfl
theorem ev_raise {x : Ex} : mRaise x δ = .exc x δ := rfl
theorem ev_for {h : MG} : mFor ms h a δ = (ms δ).out fun ds δ1 => forGo h a ds δ1 := rfl
theorem ev_iter : mIter ma δ = (ma δ).bind fun d δ1 => optE (iterD d) δ1 := rfl
theorem ev_iterA {h : List D → Option (List D)} : mIterA h ms δ = (ms δ).bind fun ds δ1 => optE (h ds) δ1 := rfl
theorem ev_sl {lo hi : MO} : mSl ma lo hi δ = (ma δ).bind fun d δ1 => (lo δ1).bind fun l δ2 => (hi δ2).bind fun u δ3 => optE (slD (deref δ3 d) l u) δ3 := rfl
theorem ev_noP : mNoPart δ = .ok none δ := rfl
theorem ev_partC {z : Int} : mPart (mC (.int z)) δ = .ok (some z) δ := rfl
def slotR : Option Slot → Nat → D
  | some (.own (.lst ds)), _ => .lst ds
  | some (.bor (.lst ds)), _ => .lst ds
  | some (.own (.dic ds)), _ => .dic ds
  | some (.bor (.dic ds)), _ => .dic ds
  | _, i => .slot i
theorem dr_slot : deref δ (.slot i) = slotR δ[i]? i := by
  simp only [deref]
  generalize δ[i]? = o
  cases o with
  | none => rfl
  | some s =>
    cases s with
    | own r => cases r <;> rfl
    | bor r => cases r <;> rfl
    | _ => rfl
theorem sr_own {ds : List D} : slotR (some (.own (.lst ds))) i = .lst ds := rfl
theorem sr_bor {ds : List D} : slotR (some (.bor (.lst ds))) i = .lst ds := rfl
theorem sr_ownD {ds : List (Key × D)} : slotR (some (.own (.dic ds))) i = .dic ds := rfl
theorem dr_non : deref δ .non = .non := rfl
theorem dr_bl {k : Bool} : deref δ (.bl k) = .bl k := rfl
theorem dr_int {k : Int} : deref δ (.int k) = .int k := rfl
theorem dr_str {k : Str} : deref δ (.str k) = .str k := rfl
theorem dr_tup {k : List D} : deref δ (.tup k) = .tup k := rfl
theorem dr_lst {k : List D} : deref δ (.lst k) = .lst k := rfl
theorem dr_ro {k : List D} : deref δ (.ro k) = .ro k := rfl
theorem dr_dic {k : List (Key × D)} : deref δ (.dic k) = .dic k := rfl
theorem dr_raw {k : V} : deref δ (.raw k) = .raw k := rfl
theorem dr_uns (h : unslot1 d = true) : deref δ d = d := by cases d <;> first | rfl | cases h
theorem u_non : unslot1 .non = true := rfl
theorem u_bl {k : Bool} : unslot1 (.bl k) = true := rfl
theorem u_int {k : Int} : unslot1 (.int k) = true := rfl
theorem u_str {k : Str} : unslot1 (.str k) = true := rfl
theorem u_tup {k : List D} : unslot1 (.tup k) = true := rfl
theorem u_lst {k : List D} : unslot1 (.lst k) = true := rfl
theorem u_ro {k : List D} : unslot1 (.ro k) = true := rfl
theorem u_dic {k : List (Key × D)} : unslot1 (.dic k) = true := rfl
theorem u_raw {k : V} : unslot1 (.raw k) = true := rfl
theorem tr_bl {k : Bool} : truD (.bl k) = some k := rfl
theorem ixA_lst {ds : List D} : ixA (.lst ds) d = ixD (.lst ds) d := rfl
theorem ixA_ro {ds : List D} : ixA (.ro ds) d = ixD (.ro ds) d := rfl
theorem ixA_tup {ds : List D} : ixA (.tup ds) d = ixD (.tup ds) d := rfl
theorem ixA_str {z : Str} : ixA (.str z) d = ixD (.str z) d := rfl
theorem gt_int {x y : Int} : gtD (.int x) (.int y) = some (.bl (decide (y < x))) := rfl
theorem ge_int {x y : Int} : geD (.int x) (.int y) = some (.bl (decide (y ≤ x))) := rfl
theorem lt_int {x y : Int} : ltD (.int x) (.int y) = some (.bl (decide (x < y))) := rfl
theorem le_int {x y : Int} : leD (.int x) (.int y) = some (.bl (decide (x ≤ y))) := rfl
theorem add_int {x y : Int} : addD (.int x) (.int y) = some (.int (x + y)) := rfl
theorem sub_int {x y : Int} : subD (.int x) (.int y) = some (.int (x - y)) := rfl
theorem int_int {x : Int} : intD [.int x] = some (.int x) := rfl
theorem eq_int {x y : Int} : eqD (.int x) (.int y) = some (.bl (decide (x = y))) := by
  unfold eqD eqB
  simp only [scalD, scal, if_true]
  by_cases h : x = y
  · subst h; simp
  · have : V.int x ≠ V.int y := fun q => h (V.int.inj q)
    simp [h, this]
def setO (ds : List D) (d : D) (i : Nat) (δ : Dl) : Option Nat → Out
  | some j => .nx (putR δ i (.lst (ds.set j d)))
  | none => .stuck
theorem so_some {ds : List D} {j : Nat} : setO ds d i δ (some j) = .nx (putR δ i (.lst (ds.set j d))) := rfl
theorem setix_lst {me mk : ME} {ds : List D} {n : Int} (e : me δ = .ok d δ1) (h : getR δ1 i = some (.lst ds)) (e2 : mk δ1 = .ok (.int n) δ2) {ds' : List D} (h2 : getR δ2 i = some (.lst ds')) (u : unslot1 d = true) : mSetIx i me mk δ = setO ds' d i δ2 (ixN ds'.length n) := by
  unfold mSetIx
  rw [e]
  simp only [Er.out, h, e2, h2, u, if_true]
  cases ixN ds'.length n <;> rfl
def slotG : Option Slot → Option R
  | some (.own r) => some r
  | some (.bor r) => some r
  | _ => none
theorem ev_getR : getR δ i = slotG δ[i]? := by
  unfold getR slotG
  generalize δ[i]? = o
  cases o with
  | none => rfl
  | some s => cases s <;> rfl
theorem sg_own {r : R} : slotG (some (.own r)) = some r := rfl
theorem sg_bor {r : R} : slotG (some (.bor r)) = some r := rfl
/-- m[z] = e, by a number that stands there -/
theorem setixC {me : ME} {n : Int} {ds : List D} (h : ∀ d δ1, me δ = .ok d δ1 → unslot1 d = true ∧ getR δ1 i = some (.lst ds)) : mSetIx i me (mC (.int n)) δ = (me δ).out fun d δ1 => setO ds d i δ1 (ixN ds.length n) := by
  cases e : me δ with
  | ok d δ1 =>
    obtain ⟨h1, h2⟩ := h d δ1 e
    exact setix_lst e h2 rfl h2 h1
  | exc x δ1 => unfold mSetIx; rw [e]; rfl
  | stuck => unfold mSetIx; rw [e]; rfl
def slotP (δ : Dl) (i : Nat) (r : R) : Option Slot → Dl
  | some (.own _) => δ.set i (.own r)
  | some (.bor _) => δ.set i (.bor r)
  | _ => δ
theorem ev_putR {r : R} : putR δ i r = slotP δ i r δ[i]? := by
  unfold putR slotP
  generalize δ[i]? = o
  cases o with
  | none => rfl
  | some s => cases s <;> rfl
theorem sp_own {r r' : R} : slotP δ i r (some (.own r')) = δ.set i (.own r) := rfl
theorem sp_bor {r r' : R} : slotP δ i r (some (.bor r')) = δ.set i (.bor r) := rfl
def setB (d : D) (i : Nat) (δ : Dl) : D → Option R → Out
  | .int n, some (.lst ds) => if unslot1 d = true then setO ds d i δ (ixN ds.length n) else .stuck
  | _, _ => .stuck
def setA : Option R → Out → Out
  | some (.lst _), o => o
  | _, _ => .stuck
theorem ev_setix {me mk : ME} : mSetIx i me mk δ = (me δ).out fun d δ1 => setA (getR δ1 i) ((mk δ1).out fun k δ2 => setB d i δ2 k (getR δ2 i)) := by
  unfold mSetIx
  congr 1
  funext d δ1
  cases h : getR δ1 i with
  | none => rfl
  | some r =>
    cases r with
    | lst ds0 =>
      show (mk δ1).out _ = (mk δ1).out _
      congr 1
      funext k δ2
      unfold setB setO
      cases k with
      | int n =>
        cases h2 : getR δ2 i with
        | none => rfl
        | some r =>
          cases r with
          | lst ds =>
            simp only
            cases ixN ds.length n with
            | none => simp
            | some j => rfl
          | _ => rfl
      | _ => rfl
    | _ => rfl
theorem sa_lst {ds : List D} : setA (some (.lst ds)) o = o := rfl
theorem sb_lst {ds : List D} {n : Int} : setB d i δ (.int n) (some (.lst ds)) = if unslot1 d = true then setO ds d i δ (ixN ds.length n) else .stuck := rfl
theorem ixN_j0 {x y : D} : ixN (List.length [x, y]) 0 = some 0 := rfl
theorem ixN_j1 {x y : D} : ixN (List.length [x, y]) 1 = some 1 := rfl
end
end DL
set_option Elab.async false
set_option linter.all false
set_option maxRecDepth 100000
set_option autoImplicit false
set_option maxHeartbeats 400000
/-! DL19: texts as lists of signs; comprehensions, told plainly. -/
namespace DL
open PySem PySem.Spec PyProof.Rows L2
abbrev S (l : List Nat) : Str := ⟨l.toArray⟩
theorem S_len (l : List Nat) : (S l).length = l.length := by show l.toArray.size = _; simp
theorem S_app (l m : List Nat) : S l ++ S m = S (l ++ m) := by
  show Str.mk (l.toArray ++ m.toArray) = _
  simp [S]
theorem S_toList (l : List Nat) : (S l).cps.toList = l := by simp [S]
theorem S_of (z : Str) : z = S z.cps.toList := by cases z; simp [S]
theorem S_mul1 (k : Nat) (n : Int) : Txt.mul (S [k]) n = S (List.replicate n.toNat k) := by
  rw [S_of (Txt.mul (S [k]) n)]
  exact congrArg S (mul_one_list k n)
theorem S_inj {l m : List Nat} (h : S l = S m) : l = m := by rw [← S_toList l, h, S_toList]
theorem add_S (l m : List Nat) (h : l.length + m.length ≤ 16777216) : addD (.str (S l)) (.str (S m)) = some (.str (S (l ++ m))) := by
  show (if (S l).length + (S m).length ≤ sizeLine then some (D.str (S l ++ S m)) else none) = _
  rw [S_len, S_len, sizeLine_eq, if_pos h, S_app]
theorem mul_S (k : Nat) (n : Int) (h0 : -1000000 ≤ n) (h : n ≤ 1000000) : mulD (.str (S [k])) (.int n) = some (.str (S (List.replicate n.toNat k))) := by
  show (if -(2 ^ 63) ≤ n ∧ n < 2 ^ 62 ∧ (S [k]).length * n.toNat ≤ sizeLine then some (D.str (Txt.mul (S [k]) n)) else none) = _
  rw [S_len, sizeLine_eq, if_pos (by refine ⟨by omega, by omega, ?_⟩; show 1 * n.toNat ≤ 16777216; omega), S_mul1]
theorem ix_S {l : List Nat} {r : Int} (hl : l.length ≤ 16777216) (h0 : 0 ≤ r) (h : r < l.length) : ∃ k, l[r.toNat]? = some k ∧ ixD (.str (S l)) (.int r) = some (.str (S [k])) := by
  have hi : r.toNat < l.length := by omega
  refine ⟨l[r.toNat], List.getElem?_eq_getElem hi, ?_⟩
  show (if (S l).length ≤ sizeLine then (atI (S l).cps.toList r).map fun k => D.str ⟨#[k]⟩ else none) = _
  rw [S_len, sizeLine_eq, if_pos hl, S_toList]
  unfold atI ixN
  rw [if_pos h0, if_pos h]
  simp only [Option.bind_some, List.getElem?_eq_getElem hi, Option.map_some]
theorem len_S (l : List Nat) (h : l.length ≤ 16777216) : lenD [.str (S l)] = some (.int l.length) := by
  show (if (S l).length ≤ sizeLine then some (D.int (S l).length) else none) = _
  rw [S_len, sizeLine_eq, if_pos h]
theorem signs_S (l : List Nat) : signs (S l) = l.map fun k => D.str (S [k]) := by unfold signs; rw [S_toList]
theorem sLt1 (a b : Nat) : sLt (S [a]) (S [b]) = decide (a < b) := by
  unfold sLt
  rw [S_toList, S_toList]
  by_cases h : a < b
  · rw [decide_eq_true h]
    exact decide_eq_true (List.Lex.rel h)
  · rw [decide_eq_false h]
    refine decide_eq_false fun q => ?_
    cases q with
    | rel q => exact h q
    | cons q => cases q
theorem le_S1 (a b : Nat) : leD (.str (S [a])) (.str (S [b])) = some (.bl (decide (a ≤ b))) := by
  show some (D.bl (!sLt (S [b]) (S [a]))) = _
  rw [sLt1]
  congr 2
  by_cases h : a ≤ b
  · rw [decide_eq_true h, decide_eq_false (by omega)]; rfl
  · rw [decide_eq_false h, decide_eq_true (by omega)]; rfl
theorem strs_S : ∀ ls : List (List Nat), strsD (ls.map fun l => D.str (S l)) = some (ls.map S)
  | [] => rfl
  | l :: ls => by
    show (strsD (ls.map fun l => D.str (S l))).map _ = _
    rw [strs_S ls]
    rfl
theorem lens_S : ∀ ls : List (List Nat), ((ls.map S).map (·.length)).sum = ls.flatten.length
  | [] => rfl
  | l :: ls => by
    rw [List.map_cons, List.map_cons, List.sum_cons, lens_S ls, List.flatten_cons, List.length_append, S_len]
theorem joinL_nil : ∀ ls : List (List Nat), TL.joinL [] ls = ls.flatten := by
  intro ls
  induction ls with
  | nil => rfl
  | cons l ls ih => cases ls with
    | nil => simp [TL.joinL]
    | cons m ms => simp [TL.joinL] at ih ⊢; exact ih
theorem join_nil (ls : List (List Nat)) (h : ls.flatten.length ≤ 16777216) : joinD (S []) [.lst (ls.map fun l => D.str (S l))] = some (.str (S ls.flatten)) := by
  show (strsD (ls.map fun l => D.str (S l))).bind _ = _
  rw [strs_S]
  show (if ((ls.map S).map (·.length)).sum + (ls.map S).length * (S []).length ≤ 16777216 then some (D.str (Txt.join (S []) (ls.map S))) else none) = _
  rw [lens_S, S_len, if_pos (by simpa using h)]
  have := SX.join_S [] ls
  rw [joinL_nil] at this
  exact congrArg (fun z => some (D.str z)) this
/-! comprehensions -/
theorem lc_nil {vs : List Nat} {g : MG} {tt : MT} {el : ME} {acc : List D} {δ : Dl} : lcGo vs g tt el [] acc δ = .ok acc δ := rfl
theorem lc_cons {vs : List Nat} {g : MG} {el : ME} {x y : D} {xs acc : List D} {δ δ1 δ3 : Dl} (h : g x δ = some δ1) (he : el δ1 = .ok y δ3) (u : unslot1 y = true) (ha : acc.length < 16777216) (hv : vs.all (freeS δ3) = true) (hl : δ3.length = δ.length) :
    lcGo vs g mYes el (x :: xs) acc δ = lcGo vs g mYes el xs (acc ++ [y]) (wipeD δ3 vs) := by
  conv => lhs; unfold lcGo
  rw [h]
  simp only [mYes, Er.bindN, he, if_true]
  rw [if_pos ⟨u, by rw [sizeLine_eq]; exact ha, hv, hl⟩]
theorem set_self {δ : Dl} {i : Nat} {s : Slot} (h : δ[i]? = some s) : δ.set i s = δ := by
  apply List.ext_getElem?
  intro j
  rw [List.getElem?_set]
  by_cases e : i = j
  · subst e
    rw [if_pos rfl, if_pos (List.getElem?_eq_some_iff.mp h).1, h]
  · rw [if_neg e]
theorem lc_map {el : ME} {f : D → D} {i : Nat} {δ : Dl} (hi : δ[i]? = some .no) : ∀ (xs acc : List D), (∀ x ∈ xs, unslot1 x = true ∧ unslot1 (f x) = true ∧ el (δ.set i (.val x)) = .ok (f x) (δ.set i (.val x))) → acc.length + xs.length ≤ 16777216 → lcGo [i] (gN i) mYes el xs acc δ = .ok (acc ++ xs.map f) δ
  | [], acc, _, _ => by simp [lcGo]
  | x :: xs, acc, h, hl => by
    obtain ⟨u, u2, e⟩ := h x List.mem_cons_self
    have hlt : i < δ.length := (List.getElem?_eq_some_iff.mp hi).1
    have ih := lc_map (el := el) (f := f) hi xs (acc ++ [f x]) (fun y hy => h y (List.mem_cons_of_mem _ hy)) (by simp at hl ⊢; omega)
    rw [lc_cons (δ1 := δ.set i (.val x)) (δ3 := δ.set i (.val x)) (y := f x) ?_ e u2 (by simp at hl; omega) ?_ (by simp)]
    · have : wipeD (δ.set i (.val x)) [i] = δ := by
        show (δ.set i (.val x)).set i .no = δ
        rw [List.set_set]
        exact set_self hi
      rw [this, ih]
      simp
    · unfold gN nobor
      rw [hi]
      simp [u]
    · simp [freeS, hlt]
theorem lc_run {el : ME} {src : ML} {f : D → D} {i : Nat} {δ : Dl} {xs : List D} (hs : src δ = .ok xs δ) (hi : δ[i]? = some .no) (h : ∀ x ∈ xs, unslot1 x = true ∧ unslot1 (f x) = true ∧ el (δ.set i (.val x)) = .ok (f x) (δ.set i (.val x))) (hl : xs.length ≤ 16777216) : mLc [i] src (gN i) mYes el δ = .ok (.lst (xs.map f)) δ := by
  unfold mLc
  rw [hs]
  have w : wipeD δ [i] = δ := set_self hi
  simp only [Er.bind]
  rw [if_pos (by simp [freeS, hi]), w, lc_map hi xs [] h (by simpa using hl)]
  simp [Er.bindN]
end DL
set_option Elab.async false
set_option linter.all false
set_option maxRecDepth 100000
set_option autoImplicit false
set_option maxHeartbeats 0
namespace DL
open PySem PySem.Spec PyProof.Rows L2
def top (i : Nat) : Stmt := PySem.Challenge.pw_heldpasts_k21_value_codes.main.body.getD i (.Pass ⟨0, 0, 0, 0⟩)
structure Txt (K : PySem.W.Frag) (mg : Str → Option Value) : Prop where
  d__law_jar : DefAt K mg ("_law_jar" : PySem.Str) (top 21)
  d__law_drawn : DefAt K mg ("_law_drawn" : PySem.Str) (top 22)
  d__law_number : DefAt K mg ("_law_number" : PySem.Str) (top 26)
  d__law_signs : DefAt K mg ("_law_signs" : PySem.Str) (top 23)
  d__law_text : DefAt K mg ("_law_text" : PySem.Str) (top 25)
  d__law_value : DefAt K mg ("_law_value" : PySem.Str) (top 27)
  d_number_code : DefAt K mg ("number_code" : PySem.Str) (top 17)
  d_text_code : DefAt K mg ("text_code" : PySem.Str) (top 16)
  d_code_of : DefAt K mg ("code_of" : PySem.Str) (top 18)
  d_is_integer : DefAt K mg ("is_integer" : PySem.Str) (top 6)
  d_is_text : DefAt K mg ("is_text" : PySem.Str) (top 7)
  d_is_value : DefAt K mg ("is_value" : PySem.Str) (top 15)
  d_value_code : DefAt K mg ("value_code" : PySem.Str) (top 19)
  d__law_told : DefAt K mg ("_law_told" : PySem.Str) (top 29)
  d__law_code : DefAt K mg ("_law_code" : PySem.Str) (top 24)
  d__law_bent : DefAt K mg ("_law_bent" : PySem.Str) (top 28)
  d_law : DefAt K mg ("law" : PySem.Str) (top 30)
  b_abs : mg ("abs" : PySem.Str) = none
  b_all : mg ("all" : PySem.Str) = none
  b_bool : mg ("bool" : PySem.Str) = none
  b_int : mg ("int" : PySem.Str) = none
  b_isinstance : mg ("isinstance" : PySem.Str) = none
  b_len : mg ("len" : PySem.Str) = none
  b_max : mg ("max" : PySem.Str) = none
  b_range : mg ("range" : PySem.Str) = none
  b_str : mg ("str" : PySem.Str) = none
  b_tuple : mg ("tuple" : PySem.Str) = none
  c_COUNTS : ∃ t, mg ("COUNTS" : PySem.Str) = some (.str ("ABCDEFGHIJKLMNOPQRSTUVWXYZ[\\]^_" : PySem.Str) t)
  c_END : ∃ t, mg ("END" : PySem.Str) = some (.str (" " : PySem.Str) t)
  c_GREATEST_SIGN : ∃ t, mg ("GREATEST_SIGN" : PySem.Str) = some (.str ("~" : PySem.Str) t)
  c_LEAST_SIGN : ∃ t, mg ("LEAST_SIGN" : PySem.Str) = some (.str (" " : PySem.Str) t)
  c_MARK : ∃ t, mg ("MARK" : PySem.Str) = some (.str ("!" : PySem.Str) t)
  c_MOST_FIGURES : ∃ t, mg ("MOST_FIGURES" : PySem.Str) = some (.int 30 t)
  c_MOST_INTEGER : ∃ t, mg ("MOST_INTEGER" : PySem.Str) = some (.int 999999999999999999999999999999 t)
  c_MOST_SIGNS : ∃ t, mg ("MOST_SIGNS" : PySem.Str) = some (.int 200 t)
  x_InvalidValue : ExcAt K mg ("InvalidValue" : PySem.Str)
  g_InvalidValue : ∃ D, mg ("InvalidValue" : PySem.Str) = some (.ref D)
  g_StoreError : ∃ D, mg ("StoreError" : PySem.Str) = some (.ref D)
  e_InvalidValue_InvalidValue : ExmAt K mg ("InvalidValue" : PySem.Str) ("InvalidValue" : PySem.Str) true
section
variable {P : Program} {w : World} {K : PySem.W.Frag} {mg : Str → Option Value} {base : Heap}
def _law_jar_D : MS := (mSeq (mAsg (m2 modD (mA intD (mCons (mV 0) mNil)) (m2 mulD (m2 mulD (m2 powD (mC (.int 10)) (mC (.int 64))) (m2 powD (mC (.int 10)) (mC (.int 64)))) (m2 powD (mC (.int 10)) (mC (.int 64))))) (gN 0))
  (mRetF (mLstF (mCons (mA max2D (mCons (mC (.int 0)) (mCons (m2 subD (mV 0) (m2 powD (mC (.int 10)) (mC (.int 18)))) mNil))) (mCons (m2 addD (m2 modD (mV 0) (mC (.int 2147483629))) (mC (.int 3))) mNil)))))
theorem sc__law_jar : FnScope [("_law_cell" : PySem.Str)] [("_law_cell" : PySem.Str)] (defScope (top 21)) := ⟨rfl, rfl, rfl, by decide +kernel, rfl, by decide +kernel, by decide +kernel⟩
theorem ok__law_jar (T : Txt K mg) : Good P w K mg base 1 ("_law_jar" : PySem.Str) (top 21) [("_law_cell" : PySem.Str)] 1 _law_jar_D := by
  refine good_mk (k := 0) T.d__law_jar sc__law_jar fun f cdv A outer s H E c hr => ?_
  have nd := sc__law_jar.nd
  have hu := hr.units
  have hu1 := hu_of hr
  have hu5 := units65 hr
  have tk : Takes (cxOf (L2.CX P w) P w K mg base [("_law_cell" : PySem.Str)] ("_law_jar" : PySem.Str) (defScope (top 21)) f cdv A outer s H E) (fun cls d _ H => E cls d H) := takes_of rfl rfl rfl rfl
  have px := px_takes tk
  have hp : PassesOwn (model P w) (cxOf (L2.CX P w) P w K mg base [("_law_cell" : PySem.Str)] ("_law_jar" : PySem.Str) (defScope (top 21)) f cdv A outer s H E).A (cxOf (L2.CX P w) P w K mg base [("_law_cell" : PySem.Str)] ("_law_jar" : PySem.Str) (defScope (top 21)) f cdv A outer s H E).env (cxOf (L2.CX P w) P w K mg base [("_law_cell" : PySem.Str)] ("_law_jar" : PySem.Str) (defScope (top 21)) f cdv A outer s H E).xe := passes_of rfl
  exact (ss_cons (ds_set (i := 0) nd rfl (by first | exact Or.inl rfl | exact Or.inr rfl) (de_mod (de_int rfl T.b_int (da_cons (de_v (pv 0)) da_nil)) (de_mul (de_mul (de_pow (de_c pe_int fun _ _ => .int _) (de_c pe_int fun _ _ => .int _)) (de_pow (de_c pe_int fun _ _ => .int _) (de_c pe_int fun _ _ => .int _))) (de_pow (de_c pe_int fun _ _ => .int _) (de_c pe_int fun _ _ => .int _)))))
  (ss_one (ds_retF (df_lstF (da_cons (de_max2 rfl rfl T.b_max (da_cons (de_c pe_int fun _ _ => .int _) (da_cons (de_sub (de_v (pv 0)) (de_pow (de_c pe_int fun _ _ => .int _) (de_c pe_int fun _ _ => .int _))) da_nil))) (da_cons (de_add (de_mod (de_v (pv 0)) (de_c pe_int fun _ _ => .int _)) (de_c pe_int fun _ _ => .int _)) da_nil))))))
def _law_drawn_D : MS := (mSeq (mIfS (mT (m2 gtD (m2 ixA (mV 0) (mC (.int 0))) (mC (.int 0))))
  (mSeq (mAsg (m2 modD (mA intD (mCons (m2 ixA (mV 0) (mC (.int 0))) mNil)) (mV 1)) (gN 2))
  (mSeq (mSetIx 0 (m2 fdivD (m2 ixA (mV 0) (mC (.int 0))) (mV 1)) (mC (.int 0)))
  (mRet (mV 2))))
  mSkip)
  (mSeq (mSetIx 0 (m2 modD (mA intD (mCons (m2 addD (m2 mulD (m2 ixA (mV 0) (mC (.int 1))) (mC (.int 48271))) (mC (.int 12820163))) mNil)) (mC (.int 2147483647))) (mC (.int 1)))
  (mRet (m2 modD (m2 fdivD (m2 modD (mA intD (mCons (m2 mulD (m2 ixA (mV 0) (mC (.int 1))) (m2 ixA (mV 0) (mC (.int 1)))) mNil)) (mC (.int 2147483629))) (mC (.int 64))) (mV 1)))))
theorem sc__law_drawn : FnScope [("_law_jar_here" : PySem.Str), ("_law_many" : PySem.Str), ("_law_digit" : PySem.Str)] [("_law_jar_here" : PySem.Str), ("_law_many" : PySem.Str)] (defScope (top 22)) := ⟨rfl, rfl, rfl, by decide +kernel, rfl, by decide +kernel, by decide +kernel⟩
theorem ok__law_drawn (T : Txt K mg) : Good P w K mg base 1 ("_law_drawn" : PySem.Str) (top 22) [("_law_jar_here" : PySem.Str), ("_law_many" : PySem.Str)] 3 _law_drawn_D := by
  refine good_mk (k := 0) T.d__law_drawn sc__law_drawn fun f cdv A outer s H E c hr => ?_
  have nd := sc__law_drawn.nd
  have hu := hr.units
  have hu1 := hu_of hr
  have hu5 := units65 hr
  have tk : Takes (cxOf (L2.CX P w) P w K mg base [("_law_jar_here" : PySem.Str), ("_law_many" : PySem.Str), ("_law_digit" : PySem.Str)] ("_law_drawn" : PySem.Str) (defScope (top 22)) f cdv A outer s H E) (fun cls d _ H => E cls d H) := takes_of rfl rfl rfl rfl
  have px := px_takes tk
  have hp : PassesOwn (model P w) (cxOf (L2.CX P w) P w K mg base [("_law_jar_here" : PySem.Str), ("_law_many" : PySem.Str), ("_law_digit" : PySem.Str)] ("_law_drawn" : PySem.Str) (defScope (top 22)) f cdv A outer s H E).A (cxOf (L2.CX P w) P w K mg base [("_law_jar_here" : PySem.Str), ("_law_many" : PySem.Str), ("_law_digit" : PySem.Str)] ("_law_drawn" : PySem.Str) (defScope (top 22)) f cdv A outer s H E).env (cxOf (L2.CX P w) P w K mg base [("_law_jar_here" : PySem.Str), ("_law_many" : PySem.Str), ("_law_digit" : PySem.Str)] ("_law_drawn" : PySem.Str) (defScope (top 22)) f cdv A outer s H E).xe := passes_of rfl
  exact (ss_cons (ds_if (dt_gt  (de_ixA hu1 (de_v (pv 0)) (de_c pe_int fun _ _ => .int _)) (de_c pe_int fun _ _ => .int _))
  (ss_cons (ds_set (i := 2) nd rfl (by first | exact Or.inl rfl | exact Or.inr rfl) (de_mod (de_int rfl T.b_int (da_cons (de_ixA hu1 (de_v (pv 0)) (de_c pe_int fun _ _ => .int _)) da_nil)) (de_v (pv 1))))
  (ss_cons (ds_setix (pv 0) (de_fdiv (de_ixA hu1 (de_v (pv 0)) (de_c pe_int fun _ _ => .int _)) (de_v (pv 1))) (de_c pe_int fun _ _ => .int _))
  (ss_one (ds_ret (de_v (pv 2))))))
  ss_nil)
  (ss_cons (ds_setix (pv 0) (de_mod (de_int rfl T.b_int (da_cons (de_add (de_mul (de_ixA hu1 (de_v (pv 0)) (de_c pe_int fun _ _ => .int _)) (de_c pe_int fun _ _ => .int _)) (de_c pe_int fun _ _ => .int _)) da_nil)) (de_c pe_int fun _ _ => .int _)) (de_c pe_int fun _ _ => .int _))
  (ss_one (ds_ret (de_mod (de_fdiv (de_mod (de_int rfl T.b_int (da_cons (de_mul (de_ixA hu1 (de_v (pv 0)) (de_c pe_int fun _ _ => .int _)) (de_ixA hu1 (de_v (pv 0)) (de_c pe_int fun _ _ => .int _))) da_nil)) (de_c pe_int fun _ _ => .int _)) (de_c pe_int fun _ _ => .int _)) (de_v (pv 1)))))))
def _law_number_D : MS := (mSeq (mPar [1, 2, 3] (mCons (mCall 3 2 _law_drawn_D [] (mCons (mV 0) (mCons (mC (.int 8)) mNil))) (mCons (m2 addD (mC (.int 1)) (mCall 3 2 _law_drawn_D [] (mCons (mV 0) (mCons (mC (.int 30)) mNil)))) (mCons (mCall 3 2 _law_drawn_D [] (mCons (mV 0) (mCons (mC (.int 2)) mNil))) mNil))))
  (mSeq (mAsg (mC (.int 1)) (gN 4))
  (mSeq (mFor (mIterA rng1 (mCons (m2 subD (mV 2) (mC (.int 1))) mNil)) (gN 5)
  (mAsg (m2 mulD (mV 4) (mC (.int 10))) (gN 4)))
  (mSeq (mIfS (mT (m2 ltD (mV 1) (mC (.int 2))))
  (mAsg (mCall 3 2 _law_drawn_D [] (mCons (mV 0) (mCons (mC (.int 12)) mNil))) (gN 6))
  (mIfS (mT (m2 ltD (mV 1) (mC (.int 5))))
  (mAsg (m2 ixA (mLst (mCons (mV 4) (mCons (m2 subD (m2 mulD (mV 4) (mC (.int 10))) (mC (.int 1))) mNil))) (m2 modD (mA intD (mCons (mV 1) mNil)) (mC (.int 2)))) (gN 6))
  (mSeq (mAsg (m2 addD (mC (.int 1)) (mCall 3 2 _law_drawn_D [] (mCons (mV 0) (mCons (mC (.int 9)) mNil)))) (gN 6))
  (mFor (mIterA rng1 (mCons (m2 subD (mV 2) (mC (.int 1))) mNil)) (gN 5)
  (mAsg (m2 addD (m2 mulD (mV 6) (mC (.int 10))) (mCall 3 2 _law_drawn_D [] (mCons (mV 0) (mCons (mC (.int 10)) mNil)))) (gN 6))))))
  (mRet (mIf (mT (m2 eqD (mV 3) (mC (.int 0)))) (mV 6) (m2 subD (mC (.int 0)) (mV 6))))))))
theorem sc__law_number : FnScope [("_law_jar_here" : PySem.Str), ("_law_kind" : PySem.Str), ("_law_many" : PySem.Str), ("_law_below" : PySem.Str), ("_law_power" : PySem.Str), ("_law_k" : PySem.Str), ("_law_found" : PySem.Str)] [("_law_jar_here" : PySem.Str)] (defScope (top 26)) := ⟨rfl, rfl, rfl, by decide +kernel, rfl, by decide +kernel, by decide +kernel⟩
theorem ok__law_number (T : Txt K mg) : Good P w K mg base 2 ("_law_number" : PySem.Str) (top 26) [("_law_jar_here" : PySem.Str)] 7 _law_number_D := by
  obtain ⟨f1, d1, g1, F1, G1⟩ := (ok__law_drawn (P := P) (w := w) (base := base) T).ex
  have b1 := F1.binds (ps := [("_law_jar_here" : PySem.Str), ("_law_many" : PySem.Str)]) (fun _ _ _ _ _ _ us hl => match us, hl with | [_, _], _ => rfl)
  refine good_mk (k := 1) T.d__law_number sc__law_number fun f cdv A outer s H E c hr => ?_
  have nd := sc__law_number.nd
  have hu := hr.units
  have hu1 := hu_of hr
  have hu5 := units65 hr
  have tk : Takes (cxOf (L2.CX P w) P w K mg base [("_law_jar_here" : PySem.Str), ("_law_kind" : PySem.Str), ("_law_many" : PySem.Str), ("_law_below" : PySem.Str), ("_law_power" : PySem.Str), ("_law_k" : PySem.Str), ("_law_found" : PySem.Str)] ("_law_number" : PySem.Str) (defScope (top 26)) f cdv A outer s H E) (fun cls d _ H => E cls d H) := takes_of rfl rfl rfl rfl
  have px := px_takes tk
  have hp : PassesOwn (model P w) (cxOf (L2.CX P w) P w K mg base [("_law_jar_here" : PySem.Str), ("_law_kind" : PySem.Str), ("_law_many" : PySem.Str), ("_law_below" : PySem.Str), ("_law_power" : PySem.Str), ("_law_k" : PySem.Str), ("_law_found" : PySem.Str)] ("_law_number" : PySem.Str) (defScope (top 26)) f cdv A outer s H E).A (cxOf (L2.CX P w) P w K mg base [("_law_jar_here" : PySem.Str), ("_law_kind" : PySem.Str), ("_law_many" : PySem.Str), ("_law_below" : PySem.Str), ("_law_power" : PySem.Str), ("_law_k" : PySem.Str), ("_law_found" : PySem.Str)] ("_law_number" : PySem.Str) (defScope (top 26)) f cdv A outer s H E).env (cxOf (L2.CX P w) P w K mg base [("_law_jar_here" : PySem.Str), ("_law_kind" : PySem.Str), ("_law_many" : PySem.Str), ("_law_below" : PySem.Str), ("_law_power" : PySem.Str), ("_law_k" : PySem.Str), ("_law_found" : PySem.Str)] ("_law_number" : PySem.Str) (defScope (top 26)) f cdv A outer s H E).xe := passes_of rfl
  exact (ss_cons (ds_par3 (i := 1) (j := 2) (l := 3) rfl nd rfl rfl rfl (by decide) (by decide) (by decide) rfl rfl rfl (da_cons (de_call G1 (hr.mono (by decide)) rfl g1 F1.kp b1 .nil px (fun _ _ => .nil) (da_cons (de_v (pv 0)) (da_cons (de_c pe_int fun _ _ => .int _) da_nil))) (da_cons (de_add (de_c pe_int fun _ _ => .int _) (de_call G1 (hr.mono (by decide)) rfl g1 F1.kp b1 .nil px (fun _ _ => .nil) (da_cons (de_v (pv 0)) (da_cons (de_c pe_int fun _ _ => .int _) da_nil)))) (da_cons (de_call G1 (hr.mono (by decide)) rfl g1 F1.kp b1 .nil px (fun _ _ => .nil) (da_cons (de_v (pv 0)) (da_cons (de_c pe_int fun _ _ => .int _) da_nil))) da_nil))))
  (ss_cons (ds_set (i := 4) nd rfl (by first | exact Or.inl rfl | exact Or.inr rfl) (de_c pe_int fun _ _ => .int _))
  (ss_cons (ds_for hp rfl (di_rng1 rfl T.b_range (da_cons (de_sub (de_v (pv 2)) (de_c pe_int fun _ _ => .int _)) da_nil)) (dg_name (pg_name (i := 5) nd rfl (by first | exact Or.inl rfl | exact Or.inr rfl)))
  (ss_one (ds_set (i := 4) nd rfl (by first | exact Or.inl rfl | exact Or.inr rfl) (de_mul (de_v (pv 4)) (de_c pe_int fun _ _ => .int _)))))
  (ss_cons (ds_if (dt_lt  (de_v (pv 1)) (de_c pe_int fun _ _ => .int _))
  (ss_one (ds_set (i := 6) nd rfl (by first | exact Or.inl rfl | exact Or.inr rfl) (de_call G1 (hr.mono (by decide)) rfl g1 F1.kp b1 .nil px (fun _ _ => .nil) (da_cons (de_v (pv 0)) (da_cons (de_c pe_int fun _ _ => .int _) da_nil)))))
  (ss_one (ds_if (dt_lt  (de_v (pv 1)) (de_c pe_int fun _ _ => .int _))
  (ss_one (ds_set (i := 6) nd rfl (by first | exact Or.inl rfl | exact Or.inr rfl) (de_ixA hu1 (de_lst (da_cons (de_v (pv 4)) (da_cons (de_sub (de_mul (de_v (pv 4)) (de_c pe_int fun _ _ => .int _)) (de_c pe_int fun _ _ => .int _)) da_nil))) (de_mod (de_int rfl T.b_int (da_cons (de_v (pv 1)) da_nil)) (de_c pe_int fun _ _ => .int _)))))
  (ss_cons (ds_set (i := 6) nd rfl (by first | exact Or.inl rfl | exact Or.inr rfl) (de_add (de_c pe_int fun _ _ => .int _) (de_call G1 (hr.mono (by decide)) rfl g1 F1.kp b1 .nil px (fun _ _ => .nil) (da_cons (de_v (pv 0)) (da_cons (de_c pe_int fun _ _ => .int _) da_nil)))))
  (ss_one (ds_for hp rfl (di_rng1 rfl T.b_range (da_cons (de_sub (de_v (pv 2)) (de_c pe_int fun _ _ => .int _)) da_nil)) (dg_name (pg_name (i := 5) nd rfl (by first | exact Or.inl rfl | exact Or.inr rfl)))
  (ss_one (ds_set (i := 6) nd rfl (by first | exact Or.inl rfl | exact Or.inr rfl) (de_add (de_mul (de_v (pv 6)) (de_c pe_int fun _ _ => .int _)) (de_call G1 (hr.mono (by decide)) rfl g1 F1.kp b1 .nil px (fun _ _ => .nil) (da_cons (de_v (pv 0)) (da_cons (de_c pe_int fun _ _ => .int _) da_nil))))))))))))
  (ss_one (ds_ret (de_if (dt_eq hu (de_v (pv 3)) (de_c pe_int fun _ _ => .int _)) (de_v (pv 6)) (de_sub (de_c pe_int fun _ _ => .int _) (de_v (pv 6))))))))))
def _law_signs_D : MS := (mSeq (mAsg (mC (.str (" !\"#$&'()*+,-./0123456789:;<=>?@ABCDEFGHIJKLMNOPQRSTUVWXYZ[\\]^_`" : PySem.Str))) (gN 0))
  (mRet (m2 addD (mV 0) (mC (.str ("abcdefghijklmnopqrstuvwxyz{|}~" : PySem.Str))))))
theorem sc__law_signs : FnScope [("_law_signs_here" : PySem.Str)] [] (defScope (top 23)) := ⟨rfl, rfl, rfl, by decide +kernel, rfl, by decide +kernel, by decide +kernel⟩
theorem ok__law_signs (T : Txt K mg) : Good P w K mg base 1 ("_law_signs" : PySem.Str) (top 23) [] 1 _law_signs_D := by
  refine good_mk (k := 0) T.d__law_signs sc__law_signs fun f cdv A outer s H E c hr => ?_
  have nd := sc__law_signs.nd
  have hu := hr.units
  have hu1 := hu_of hr
  have hu5 := units65 hr
  have tk : Takes (cxOf (L2.CX P w) P w K mg base [("_law_signs_here" : PySem.Str)] ("_law_signs" : PySem.Str) (defScope (top 23)) f cdv A outer s H E) (fun cls d _ H => E cls d H) := takes_of rfl rfl rfl rfl
  have px := px_takes tk
  have hp : PassesOwn (model P w) (cxOf (L2.CX P w) P w K mg base [("_law_signs_here" : PySem.Str)] ("_law_signs" : PySem.Str) (defScope (top 23)) f cdv A outer s H E).A (cxOf (L2.CX P w) P w K mg base [("_law_signs_here" : PySem.Str)] ("_law_signs" : PySem.Str) (defScope (top 23)) f cdv A outer s H E).env (cxOf (L2.CX P w) P w K mg base [("_law_signs_here" : PySem.Str)] ("_law_signs" : PySem.Str) (defScope (top 23)) f cdv A outer s H E).xe := passes_of rfl
  exact (ss_cons (ds_set (i := 0) nd rfl (by first | exact Or.inl rfl | exact Or.inr rfl) (de_c pe_str fun _ _ => .str _))
  (ss_one (ds_ret (de_add (de_v (pv 0)) (de_c pe_str fun _ _ => .str _)))))
def _law_text_D : MS := (mSeq (mAsg (mTup (mCons (mCall 1 0 _law_signs_D [] mNil) (mCons (mC (.str (" !\"a" : PySem.Str))) (mCons (mCall 3 2 _law_drawn_D [] (mCons (mV 0) (mCons (mC (.int 8)) mNil))) mNil)))) (gT [1, 2, 3]))
  (mSeq (mIfS (mT (m2 eqD (mV 3) (mC (.int 0))))
  (mSeq (mAsg (m2 subD (mC (.int 200)) (mCall 3 2 _law_drawn_D [] (mCons (mV 0) (mCons (mC (.int 3)) mNil)))) (gN 4))
  (mSeq (mPar [5, 6, 7] (mCons (m2 ixA (mV 1) (mCall 3 2 _law_drawn_D [] (mCons (mV 0) (mCons (mC (.int 94)) mNil)))) (mCons (m2 ixA (mV 2) (mCall 3 2 _law_drawn_D [] (mCons (mV 0) (mCons (mC (.int 4)) mNil)))) (mCons (mCall 3 2 _law_drawn_D [] (mCons (mV 0) (mCons (mV 4) mNil))) mNil))))
  (mRet (m2 addD (m2 addD (m2 mulD (mV 5) (mV 7)) (mV 6)) (m2 mulD (mV 5) (m2 subD (m2 subD (mV 4) (mV 7)) (mC (.int 1))))))))
  mSkip)
  (mSeq (mIfS (mT (m2 ltD (mV 3) (mC (.int 5))))
  (mRet (mStr1 joinD (mC (.str ("" : PySem.Str))) (mCons (mFz (mLc [8] (mIterA rng1 (mCons (mCall 3 2 _law_drawn_D [] (mCons (mV 0) (mCons (mC (.int 5)) mNil))) mNil)) (gN 8) mYes (m2 ixA (mV 2) (mCall 3 2 _law_drawn_D [] (mCons (mV 0) (mCons (mC (.int 4)) mNil)))))) mNil)))
  mSkip)
  (mRet (mStr1 joinD (mC (.str ("" : PySem.Str))) (mCons (mFz (mLc [8] (mIterA rng1 (mCons (mCall 3 2 _law_drawn_D [] (mCons (mV 0) (mCons (mC (.int 8)) mNil))) mNil)) (gN 8) mYes (m2 ixA (mV 1) (mCall 3 2 _law_drawn_D [] (mCons (mV 0) (mCons (mC (.int 94)) mNil)))))) mNil))))))
theorem sc__law_text : FnScope [("_law_jar_here" : PySem.Str), ("_law_signs_here" : PySem.Str), ("_law_low" : PySem.Str), ("_law_kind" : PySem.Str), ("_law_size" : PySem.Str), ("_law_one" : PySem.Str), ("_law_other" : PySem.Str), ("_law_at" : PySem.Str), ("_law_k" : PySem.Str)] [("_law_jar_here" : PySem.Str)] (defScope (top 25)) := ⟨rfl, rfl, rfl, by decide +kernel, rfl, by decide +kernel, by decide +kernel⟩
theorem ok__law_text (T : Txt K mg) : Good P w K mg base 2 ("_law_text" : PySem.Str) (top 25) [("_law_jar_here" : PySem.Str)] 9 _law_text_D := by
  obtain ⟨f1, d1, g1, F1, G1⟩ := (ok__law_drawn (P := P) (w := w) (base := base) T).ex
  have b1 := F1.binds (ps := [("_law_jar_here" : PySem.Str), ("_law_many" : PySem.Str)]) (fun _ _ _ _ _ _ us hl => match us, hl with | [_, _], _ => rfl)
  obtain ⟨f2, d2, g2, F2, G2⟩ := (ok__law_signs (P := P) (w := w) (base := base) T).ex
  have b2 := F2.binds (ps := []) (fun _ _ _ _ _ _ us hl => match us, hl with | [], _ => rfl)
  refine good_mk (k := 1) T.d__law_text sc__law_text fun f cdv A outer s H E c hr => ?_
  have nd := sc__law_text.nd
  have hu := hr.units
  have hu1 := hu_of hr
  have hu5 := units65 hr
  have tk : Takes (cxOf (L2.CX P w) P w K mg base [("_law_jar_here" : PySem.Str), ("_law_signs_here" : PySem.Str), ("_law_low" : PySem.Str), ("_law_kind" : PySem.Str), ("_law_size" : PySem.Str), ("_law_one" : PySem.Str), ("_law_other" : PySem.Str), ("_law_at" : PySem.Str), ("_law_k" : PySem.Str)] ("_law_text" : PySem.Str) (defScope (top 25)) f cdv A outer s H E) (fun cls d _ H => E cls d H) := takes_of rfl rfl rfl rfl
  have px := px_takes tk
  have hp : PassesOwn (model P w) (cxOf (L2.CX P w) P w K mg base [("_law_jar_here" : PySem.Str), ("_law_signs_here" : PySem.Str), ("_law_low" : PySem.Str), ("_law_kind" : PySem.Str), ("_law_size" : PySem.Str), ("_law_one" : PySem.Str), ("_law_other" : PySem.Str), ("_law_at" : PySem.Str), ("_law_k" : PySem.Str)] ("_law_text" : PySem.Str) (defScope (top 25)) f cdv A outer s H E).A (cxOf (L2.CX P w) P w K mg base [("_law_jar_here" : PySem.Str), ("_law_signs_here" : PySem.Str), ("_law_low" : PySem.Str), ("_law_kind" : PySem.Str), ("_law_size" : PySem.Str), ("_law_one" : PySem.Str), ("_law_other" : PySem.Str), ("_law_at" : PySem.Str), ("_law_k" : PySem.Str)] ("_law_text" : PySem.Str) (defScope (top 25)) f cdv A outer s H E).env (cxOf (L2.CX P w) P w K mg base [("_law_jar_here" : PySem.Str), ("_law_signs_here" : PySem.Str), ("_law_low" : PySem.Str), ("_law_kind" : PySem.Str), ("_law_size" : PySem.Str), ("_law_one" : PySem.Str), ("_law_other" : PySem.Str), ("_law_at" : PySem.Str), ("_law_k" : PySem.Str)] ("_law_text" : PySem.Str) (defScope (top 25)) f cdv A outer s H E).xe := passes_of rfl
  exact (ss_cons (ds_asg (de_tup (da_cons (de_call0 G2 (hr.mono (by decide)) rfl g2 F2.kp b2 .nil px (fun _ _ => .nil)) (da_cons (de_c pe_str fun _ _ => .str _) (da_cons (de_call G1 (hr.mono (by decide)) rfl g1 F1.kp b1 .nil px (fun _ _ => .nil) (da_cons (de_v (pv 0)) (da_cons (de_c pe_int fun _ _ => .int _) da_nil))) da_nil)))) (dg_tup (is := [1, 2, 3]) (pg_tup rfl (pgs_cons (pg_name (i := 1) nd rfl (by first | exact Or.inl rfl | exact Or.inr rfl)) (pgs_cons (pg_name (i := 2) nd rfl (by first | exact Or.inl rfl | exact Or.inr rfl)) (pgs_cons (pg_name (i := 3) nd rfl (by first | exact Or.inl rfl | exact Or.inr rfl)) pgs_nil))))) gT_ns)
  (ss_cons (ds_if (dt_eq hu (de_v (pv 3)) (de_c pe_int fun _ _ => .int _))
  (ss_cons (ds_set (i := 4) nd rfl (by first | exact Or.inl rfl | exact Or.inr rfl) (de_sub (de_c pe_int fun _ _ => .int _) (de_call G1 (hr.mono (by decide)) rfl g1 F1.kp b1 .nil px (fun _ _ => .nil) (da_cons (de_v (pv 0)) (da_cons (de_c pe_int fun _ _ => .int _) da_nil)))))
  (ss_cons (ds_par3 (i := 5) (j := 6) (l := 7) rfl nd rfl rfl rfl (by decide) (by decide) (by decide) rfl rfl rfl (da_cons (de_ixA hu1 (de_v (pv 1)) (de_call G1 (hr.mono (by decide)) rfl g1 F1.kp b1 .nil px (fun _ _ => .nil) (da_cons (de_v (pv 0)) (da_cons (de_c pe_int fun _ _ => .int _) da_nil)))) (da_cons (de_ixA hu1 (de_v (pv 2)) (de_call G1 (hr.mono (by decide)) rfl g1 F1.kp b1 .nil px (fun _ _ => .nil) (da_cons (de_v (pv 0)) (da_cons (de_c pe_int fun _ _ => .int _) da_nil)))) (da_cons (de_call G1 (hr.mono (by decide)) rfl g1 F1.kp b1 .nil px (fun _ _ => .nil) (da_cons (de_v (pv 0)) (da_cons (de_v (pv 4)) da_nil))) da_nil))))
  (ss_one (ds_ret (de_add (de_add (de_mul (de_v (pv 5)) (de_v (pv 7))) (de_v (pv 6))) (de_mul (de_v (pv 5)) (de_sub (de_sub (de_v (pv 4)) (de_v (pv 7))) (de_c pe_int fun _ _ => .int _))))))))
  ss_nil)
  (ss_cons (ds_if (dt_lt  (de_v (pv 3)) (de_c pe_int fun _ _ => .int _))
  (ss_one (ds_ret (de_join (de_c pe_str fun _ _ => .str _) (da_cons (de_fz (df_lc (own := [(("_law_k" : PySem.Str), 8)]) rfl nd (di_rng1 rfl T.b_range (da_cons (de_call G1 (hr.mono (by decide)) rfl g1 F1.kp b1 .nil px (fun _ _ => .nil) (da_cons (de_v (pv 0)) (da_cons (de_c pe_int fun _ _ => .int _) da_nil))) da_nil)) (blkOk_by (by kernel_rfl)) (fun _ _ _ _ _ => (dg_name (pg_name (i := 8) nd rfl (by first | exact Or.inl rfl | exact Or.inr rfl)))) (fun _ _ _ _ _ => ts_nil) (fun _ _ _ _ _ => dx_of fun c => (de_ixA hu1 (de_v (pv 2)) (de_call G1 (hr.mono (by decide)) rfl g1 F1.kp b1 .nil px_none (fun _ _ => .nil) (da_cons (de_v (pv 0)) (da_cons (de_c pe_int fun _ _ => .int _) da_nil))))))) da_nil))))
  ss_nil)
  (ss_one (ds_ret (de_join (de_c pe_str fun _ _ => .str _) (da_cons (de_fz (df_lc (own := [(("_law_k" : PySem.Str), 8)]) rfl nd (di_rng1 rfl T.b_range (da_cons (de_call G1 (hr.mono (by decide)) rfl g1 F1.kp b1 .nil px (fun _ _ => .nil) (da_cons (de_v (pv 0)) (da_cons (de_c pe_int fun _ _ => .int _) da_nil))) da_nil)) (blkOk_by (by kernel_rfl)) (fun _ _ _ _ _ => (dg_name (pg_name (i := 8) nd rfl (by first | exact Or.inl rfl | exact Or.inr rfl)))) (fun _ _ _ _ _ => ts_nil) (fun _ _ _ _ _ => dx_of fun c => (de_ixA hu1 (de_v (pv 1)) (de_call G1 (hr.mono (by decide)) rfl g1 F1.kp b1 .nil px_none (fun _ _ => .nil) (da_cons (de_v (pv 0)) (da_cons (de_c pe_int fun _ _ => .int _) da_nil))))))) da_nil)))))))
def _law_value_D : MS := (mSeq (mAsg (mCall 3 2 _law_drawn_D [] (mCons (mV 0) (mCons (mC (.int 9)) mNil))) (gN 1))
  (mSeq (mIfS (mT (m2 ltD (mV 1) (mC (.int 3))))
  (mRet (m2 ixA (mLst (mCons (mC .non) (mCons (mC (.bl false)) (mCons (mC (.bl true)) mNil)))) (mV 1)))
  mSkip)
  (mRet (mIf (mT (m2 ltD (mV 1) (mC (.int 6)))) (mCall 7 1 _law_number_D [] (mCons (mV 0) mNil)) (mCall 9 1 _law_text_D [] (mCons (mV 0) mNil))))))
theorem sc__law_value : FnScope [("_law_jar_here" : PySem.Str), ("_law_kind" : PySem.Str)] [("_law_jar_here" : PySem.Str)] (defScope (top 27)) := ⟨rfl, rfl, rfl, by decide +kernel, rfl, by decide +kernel, by decide +kernel⟩
theorem ok__law_value (T : Txt K mg) : Good P w K mg base 3 ("_law_value" : PySem.Str) (top 27) [("_law_jar_here" : PySem.Str)] 2 _law_value_D := by
  obtain ⟨f1, d1, g1, F1, G1⟩ := (ok__law_drawn (P := P) (w := w) (base := base) T).ex
  have b1 := F1.binds (ps := [("_law_jar_here" : PySem.Str), ("_law_many" : PySem.Str)]) (fun _ _ _ _ _ _ us hl => match us, hl with | [_, _], _ => rfl)
  obtain ⟨f2, d2, g2, F2, G2⟩ := (ok__law_number (P := P) (w := w) (base := base) T).ex
  have b2 := F2.binds (ps := [("_law_jar_here" : PySem.Str)]) (fun _ _ _ _ _ _ us hl => match us, hl with | [_], _ => rfl)
  obtain ⟨f3, d3, g3, F3, G3⟩ := (ok__law_text (P := P) (w := w) (base := base) T).ex
  have b3 := F3.binds (ps := [("_law_jar_here" : PySem.Str)]) (fun _ _ _ _ _ _ us hl => match us, hl with | [_], _ => rfl)
  refine good_mk (k := 2) T.d__law_value sc__law_value fun f cdv A outer s H E c hr => ?_
  have nd := sc__law_value.nd
  have hu := hr.units
  have hu1 := hu_of hr
  have hu5 := units65 hr
  have tk : Takes (cxOf (L2.CX P w) P w K mg base [("_law_jar_here" : PySem.Str), ("_law_kind" : PySem.Str)] ("_law_value" : PySem.Str) (defScope (top 27)) f cdv A outer s H E) (fun cls d _ H => E cls d H) := takes_of rfl rfl rfl rfl
  have px := px_takes tk
  have hp : PassesOwn (model P w) (cxOf (L2.CX P w) P w K mg base [("_law_jar_here" : PySem.Str), ("_law_kind" : PySem.Str)] ("_law_value" : PySem.Str) (defScope (top 27)) f cdv A outer s H E).A (cxOf (L2.CX P w) P w K mg base [("_law_jar_here" : PySem.Str), ("_law_kind" : PySem.Str)] ("_law_value" : PySem.Str) (defScope (top 27)) f cdv A outer s H E).env (cxOf (L2.CX P w) P w K mg base [("_law_jar_here" : PySem.Str), ("_law_kind" : PySem.Str)] ("_law_value" : PySem.Str) (defScope (top 27)) f cdv A outer s H E).xe := passes_of rfl
  exact (ss_cons (ds_set (i := 1) nd rfl (by first | exact Or.inl rfl | exact Or.inr rfl) (de_call G1 (hr.mono (by decide)) rfl g1 F1.kp b1 .nil px (fun _ _ => .nil) (da_cons (de_v (pv 0)) (da_cons (de_c pe_int fun _ _ => .int _) da_nil))))
  (ss_cons (ds_if (dt_lt  (de_v (pv 1)) (de_c pe_int fun _ _ => .int _))
  (ss_one (ds_ret (de_ixA hu1 (de_lst (da_cons (de_c pe_non fun _ _ => .non) (da_cons (de_c pe_bl fun _ _ => .bl _) (da_cons (de_c pe_bl fun _ _ => .bl _) da_nil)))) (de_v (pv 1)))))
  ss_nil)
  (ss_one (ds_ret (de_if (dt_lt  (de_v (pv 1)) (de_c pe_int fun _ _ => .int _)) (de_call G2 (hr.mono (by decide)) rfl g2 F2.kp b2 .nil px (fun _ _ => .nil) (da_cons (de_v (pv 0)) da_nil)) (de_call G3 (hr.mono (by decide)) rfl g3 F3.kp b3 .nil px (fun _ _ => .nil) (da_cons (de_v (pv 0)) da_nil)))))))
def number_code_D : MS := (mSeq (mIfS (mT (m2 eqD (mV 0) (mC (.int 0))))
  (mRet (mC (.str ("o" : PySem.Str))))
  mSkip)
  (mSeq (mAsg (mA strD (mCons (mA absD (mCons (mV 0) mNil)) mNil)) (gN 1))
  (mSeq (mIfS (mT (m2 gtD (mV 0) (mC (.int 0))))
  (mRet (m2 addD (m2 addD (mC (.str ("p" : PySem.Str))) (m2 ixA (mC (.str ("ABCDEFGHIJKLMNOPQRSTUVWXYZ[\\]^_" : PySem.Str))) (m2 subD (mA lenD (mCons (mV 1) mNil)) (mC (.int 1))))) (mV 1)))
  mSkip)
  (mRet (m2 addD (m2 addD (mC (.str ("n" : PySem.Str))) (m2 ixA (mC (.str ("ABCDEFGHIJKLMNOPQRSTUVWXYZ[\\]^_" : PySem.Str))) (m2 subD (m2 addD (mC (.int 30)) (mC (.int 1))) (mA lenD (mCons (mV 1) mNil))))) (mStr1 joinD (mC (.str ("" : PySem.Str))) (mCons (mFz (mLc [2] (mIter (mV 1)) (gN 2) mYes (mA strD (mCons (m2 subD (mC (.int 9)) (mA intD (mCons (mV 2) mNil))) mNil)))) mNil)))))))
theorem sc_number_code : FnScope [("number" : PySem.Str), ("digits" : PySem.Str), ("digit" : PySem.Str)] [("number" : PySem.Str)] (defScope (top 17)) := ⟨rfl, rfl, rfl, by decide +kernel, rfl, by decide +kernel, by decide +kernel⟩
theorem ok_number_code (T : Txt K mg) : Good P w K mg base 1 ("number_code" : PySem.Str) (top 17) [("number" : PySem.Str)] 3 number_code_D := by
  refine good_mk (k := 0) T.d_number_code sc_number_code fun f cdv A outer s H E c hr => ?_
  have nd := sc_number_code.nd
  have hu := hr.units
  have hu1 := hu_of hr
  have hu5 := units65 hr
  have tk : Takes (cxOf (L2.CX P w) P w K mg base [("number" : PySem.Str), ("digits" : PySem.Str), ("digit" : PySem.Str)] ("number_code" : PySem.Str) (defScope (top 17)) f cdv A outer s H E) (fun cls d _ H => E cls d H) := takes_of rfl rfl rfl rfl
  have px := px_takes tk
  have hp : PassesOwn (model P w) (cxOf (L2.CX P w) P w K mg base [("number" : PySem.Str), ("digits" : PySem.Str), ("digit" : PySem.Str)] ("number_code" : PySem.Str) (defScope (top 17)) f cdv A outer s H E).A (cxOf (L2.CX P w) P w K mg base [("number" : PySem.Str), ("digits" : PySem.Str), ("digit" : PySem.Str)] ("number_code" : PySem.Str) (defScope (top 17)) f cdv A outer s H E).env (cxOf (L2.CX P w) P w K mg base [("number" : PySem.Str), ("digits" : PySem.Str), ("digit" : PySem.Str)] ("number_code" : PySem.Str) (defScope (top 17)) f cdv A outer s H E).xe := passes_of rfl
  exact (ss_cons (ds_if (dt_eq hu (de_v (pv 0)) (de_c pe_int fun _ _ => .int _))
  (ss_one (ds_ret (de_c pe_str fun _ _ => .str _)))
  ss_nil)
  (ss_cons (ds_set (i := 1) nd rfl (by first | exact Or.inl rfl | exact Or.inr rfl) (de_str rfl T.b_str (da_cons (de_abs rfl T.b_abs (da_cons (de_v (pv 0)) da_nil)) da_nil)))
  (ss_cons (ds_if (dt_gt  (de_v (pv 0)) (de_c pe_int fun _ _ => .int _))
  (ss_one (ds_ret (de_add (de_add (de_c pe_str fun _ _ => .str _) (de_ixA hu1 (de_gs rfl T.c_COUNTS) (de_sub (de_len rfl T.b_len (da_cons (de_v (pv 1)) da_nil)) (de_c pe_int fun _ _ => .int _)))) (de_v (pv 1)))))
  ss_nil)
  (ss_one (ds_ret (de_add (de_add (de_c pe_str fun _ _ => .str _) (de_ixA hu1 (de_gs rfl T.c_COUNTS) (de_sub (de_add (de_gi rfl T.c_MOST_FIGURES) (de_c pe_int fun _ _ => .int _)) (de_len rfl T.b_len (da_cons (de_v (pv 1)) da_nil))))) (de_join (de_c pe_str fun _ _ => .str _) (da_cons (de_fz (df_lc (own := [(("digit" : PySem.Str), 2)]) rfl nd (di_seq (de_v (pv 1))) (blkOk_by (by kernel_rfl)) (fun _ _ _ _ _ => (dg_name (pg_name (i := 2) nd rfl (by first | exact Or.inl rfl | exact Or.inr rfl)))) (fun _ _ _ _ _ => ts_nil) (fun _ _ _ _ _ => dx_of fun c => (de_str rfl T.b_str (da_cons (de_sub (de_c pe_int fun _ _ => .int _) (de_int rfl T.b_int (da_cons (de_v (pv 2)) da_nil))) da_nil))))) da_nil))))))))
def text_code_D : MS := (mSeq (mAsg (mFz (mDisp [((mC (.str (" " : PySem.Str))), (m2 addD (mC (.str ("!" : PySem.Str))) (mC (.str ("a" : PySem.Str))))), ((mC (.str ("!" : PySem.Str))), (m2 addD (mC (.str ("!" : PySem.Str))) (mC (.str ("b" : PySem.Str)))))])) (gN 1))
  (mRet (m2 addD (mStr1 joinD (mC (.str ("" : PySem.Str))) (mCons (mFz (mLc [2] (mIter (mV 0)) (gN 2) mYes (mGet2 (mV 1) (mV 2) (mV 2)))) mNil)) (mC (.str (" " : PySem.Str))))))
theorem sc_text_code : FnScope [("text" : PySem.Str), ("told" : PySem.Str), ("sign" : PySem.Str)] [("text" : PySem.Str)] (defScope (top 16)) := ⟨rfl, rfl, rfl, by decide +kernel, rfl, by decide +kernel, by decide +kernel⟩
theorem ok_text_code (T : Txt K mg) : Good P w K mg base 1 ("text_code" : PySem.Str) (top 16) [("text" : PySem.Str)] 3 text_code_D := by
  refine good_mk (k := 0) T.d_text_code sc_text_code fun f cdv A outer s H E c hr => ?_
  have nd := sc_text_code.nd
  have hu := hr.units
  have hu1 := hu_of hr
  have hu5 := units65 hr
  have tk : Takes (cxOf (L2.CX P w) P w K mg base [("text" : PySem.Str), ("told" : PySem.Str), ("sign" : PySem.Str)] ("text_code" : PySem.Str) (defScope (top 16)) f cdv A outer s H E) (fun cls d _ H => E cls d H) := takes_of rfl rfl rfl rfl
  have px := px_takes tk
  have hp : PassesOwn (model P w) (cxOf (L2.CX P w) P w K mg base [("text" : PySem.Str), ("told" : PySem.Str), ("sign" : PySem.Str)] ("text_code" : PySem.Str) (defScope (top 16)) f cdv A outer s H E).A (cxOf (L2.CX P w) P w K mg base [("text" : PySem.Str), ("told" : PySem.Str), ("sign" : PySem.Str)] ("text_code" : PySem.Str) (defScope (top 16)) f cdv A outer s H E).env (cxOf (L2.CX P w) P w K mg base [("text" : PySem.Str), ("told" : PySem.Str), ("sign" : PySem.Str)] ("text_code" : PySem.Str) (defScope (top 16)) f cdv A outer s H E).xe := passes_of rfl
  exact (ss_cons (ds_set (i := 1) nd rfl (by first | exact Or.inl rfl | exact Or.inr rfl) (de_fz (df_disp (.cons (fun c => (de_gs rfl T.c_END)) (fun c => (de_add (de_gs rfl T.c_MARK) (de_c pe_str fun _ _ => .str _))) (.cons (fun c => (de_gs rfl T.c_MARK)) (fun c => (de_add (de_gs rfl T.c_MARK) (de_c pe_str fun _ _ => .str _))) .nil)))))
  (ss_one (ds_ret (de_add (de_join (de_c pe_str fun _ _ => .str _) (da_cons (de_fz (df_lc (own := [(("sign" : PySem.Str), 2)]) rfl nd (di_seq (de_v (pv 0))) (blkOk_by (by kernel_rfl)) (fun _ _ _ _ _ => (dg_name (pg_name (i := 2) nd rfl (by first | exact Or.inl rfl | exact Or.inr rfl)))) (fun _ _ _ _ _ => ts_nil) (fun _ _ _ _ _ => dx_of fun c => (de_get2 hu1 (de_v (pv 1)) (de_v (pv 2)) (de_v (pv 2)))))) da_nil)) (de_gs rfl T.c_END)))))
def code_of_D : MS := (mSeq (mIfS (mTOr (mT (m2 isA (mV 0) (mC .non))) (mTOr (mT (m2 isA (mV 0) (mC (.bl false)))) (mT (m2 isA (mV 0) (mC (.bl true))))))
  (mRet (mIf (mT (m2 isA (mV 0) (mC .non))) (mC (.str ("0" : PySem.Str))) (mA strD (mCons (m2 addD (mC (.int 1)) (mA intD (mCons (mV 0) mNil))) mNil))))
  mSkip)
  (mRet (mIf (mT (mA isiD (mCons (mV 0) (mCons (mC (.raw (.ty "str"))) mNil)))) (m2 addD (mC (.str ("t" : PySem.Str))) (mCall 3 1 text_code_D [] (mCons (mV 0) mNil))) (mCall 3 1 number_code_D [] (mCons (mV 0) mNil)))))
theorem sc_code_of : FnScope [("value" : PySem.Str)] [("value" : PySem.Str)] (defScope (top 18)) := ⟨rfl, rfl, rfl, by decide +kernel, rfl, by decide +kernel, by decide +kernel⟩
theorem ok_code_of (T : Txt K mg) : Good P w K mg base 2 ("code_of" : PySem.Str) (top 18) [("value" : PySem.Str)] 1 code_of_D := by
  obtain ⟨f1, d1, g1, F1, G1⟩ := (ok_text_code (P := P) (w := w) (base := base) T).ex
  have b1 := F1.binds (ps := [("text" : PySem.Str)]) (fun _ _ _ _ _ _ us hl => match us, hl with | [_], _ => rfl)
  obtain ⟨f2, d2, g2, F2, G2⟩ := (ok_number_code (P := P) (w := w) (base := base) T).ex
  have b2 := F2.binds (ps := [("number" : PySem.Str)]) (fun _ _ _ _ _ _ us hl => match us, hl with | [_], _ => rfl)
  refine good_mk (k := 1) T.d_code_of sc_code_of fun f cdv A outer s H E c hr => ?_
  have nd := sc_code_of.nd
  have hu := hr.units
  have hu1 := hu_of hr
  have hu5 := units65 hr
  have tk : Takes (cxOf (L2.CX P w) P w K mg base [("value" : PySem.Str)] ("code_of" : PySem.Str) (defScope (top 18)) f cdv A outer s H E) (fun cls d _ H => E cls d H) := takes_of rfl rfl rfl rfl
  have px := px_takes tk
  have hp : PassesOwn (model P w) (cxOf (L2.CX P w) P w K mg base [("value" : PySem.Str)] ("code_of" : PySem.Str) (defScope (top 18)) f cdv A outer s H E).A (cxOf (L2.CX P w) P w K mg base [("value" : PySem.Str)] ("code_of" : PySem.Str) (defScope (top 18)) f cdv A outer s H E).env (cxOf (L2.CX P w) P w K mg base [("value" : PySem.Str)] ("code_of" : PySem.Str) (defScope (top 18)) f cdv A outer s H E).xe := passes_of rfl
  exact (ss_cons (ds_if (dt_w (dw_or (dt_is  (de_v (pv 0)) (de_c pe_non fun _ _ => .non)) (dw_or (dt_is  (de_v (pv 0)) (de_c pe_bl fun _ _ => .bl _)) (dw_or1 (dt_is  (de_v (pv 0)) (de_c pe_bl fun _ _ => .bl _))))))
  (ss_one (ds_ret (de_if (dt_is  (de_v (pv 0)) (de_c pe_non fun _ _ => .non)) (de_c pe_str fun _ _ => .str _) (de_str rfl T.b_str (da_cons (de_add (de_c pe_int fun _ _ => .int _) (de_int rfl T.b_int (da_cons (de_v (pv 0)) da_nil))) da_nil)))))
  ss_nil)
  (ss_one (ds_ret (de_if (dt_tru (de_isi rfl T.b_isinstance (da_cons (de_v (pv 0)) (da_cons (de_c (pe_bltn (v := .ty "str") rfl T.b_str (by decide +kernel) rfl) fun _ _ => .raw _) da_nil)))) (de_add (de_c pe_str fun _ _ => .str _) (de_call G1 (hr.mono (by decide)) rfl g1 F1.kp b1 .nil px (fun _ _ => .nil) (da_cons (de_v (pv 0)) da_nil))) (de_call G2 (hr.mono (by decide)) rfl g2 F2.kp b2 .nil px (fun _ _ => .nil) (da_cons (de_v (pv 0)) da_nil))))))
def is_integer_D : MS := (mRet (mAnd (mA isiD (mCons (mV 0) (mCons (mC (.raw (.ty "int"))) mNil))) (mNot (mA isiD (mCons (mV 0) (mCons (mC (.raw (.ty "bool"))) mNil))))))
theorem sc_is_integer : FnScope [("value" : PySem.Str)] [("value" : PySem.Str)] (defScope (top 6)) := ⟨rfl, rfl, rfl, by decide +kernel, rfl, by decide +kernel, by decide +kernel⟩
theorem ok_is_integer (T : Txt K mg) : Good P w K mg base 1 ("is_integer" : PySem.Str) (top 6) [("value" : PySem.Str)] 1 is_integer_D := by
  refine good_mk (k := 0) T.d_is_integer sc_is_integer fun f cdv A outer s H E c hr => ?_
  have nd := sc_is_integer.nd
  have hu := hr.units
  have hu1 := hu_of hr
  have hu5 := units65 hr
  have tk : Takes (cxOf (L2.CX P w) P w K mg base [("value" : PySem.Str)] ("is_integer" : PySem.Str) (defScope (top 6)) f cdv A outer s H E) (fun cls d _ H => E cls d H) := takes_of rfl rfl rfl rfl
  have px := px_takes tk
  have hp : PassesOwn (model P w) (cxOf (L2.CX P w) P w K mg base [("value" : PySem.Str)] ("is_integer" : PySem.Str) (defScope (top 6)) f cdv A outer s H E).A (cxOf (L2.CX P w) P w K mg base [("value" : PySem.Str)] ("is_integer" : PySem.Str) (defScope (top 6)) f cdv A outer s H E).env (cxOf (L2.CX P w) P w K mg base [("value" : PySem.Str)] ("is_integer" : PySem.Str) (defScope (top 6)) f cdv A outer s H E).xe := passes_of rfl
  exact (ss_one (ds_ret (de_and (de_isi rfl T.b_isinstance (da_cons (de_v (pv 0)) (da_cons (de_c (pe_bltn (v := .ty "int") rfl T.b_int (by decide +kernel) rfl) fun _ _ => .raw _) da_nil))) (de_one (de_not (de_isi rfl T.b_isinstance (da_cons (de_v (pv 0)) (da_cons (de_c (pe_bltn (v := .ty "bool") rfl T.b_bool (by decide +kernel) rfl) fun _ _ => .raw _) da_nil))))))))
def is_text_D : MS := (mRet (mAnd (mA isiD (mCons (mV 0) (mCons (mC (.raw (.ty "str"))) mNil))) (mA allD (mCons (mFz (mLc [1] (mIter (mV 0)) (gN 1) mYes (mChain leD leD (mC (.str (" " : PySem.Str))) (mV 1) (mC (.str ("~" : PySem.Str)))))) mNil))))
theorem sc_is_text : FnScope [("value" : PySem.Str), ("sign" : PySem.Str)] [("value" : PySem.Str)] (defScope (top 7)) := ⟨rfl, rfl, rfl, by decide +kernel, rfl, by decide +kernel, by decide +kernel⟩
theorem ok_is_text (T : Txt K mg) : Good P w K mg base 1 ("is_text" : PySem.Str) (top 7) [("value" : PySem.Str)] 2 is_text_D := by
  refine good_mk (k := 0) T.d_is_text sc_is_text fun f cdv A outer s H E c hr => ?_
  have nd := sc_is_text.nd
  have hu := hr.units
  have hu1 := hu_of hr
  have hu5 := units65 hr
  have tk : Takes (cxOf (L2.CX P w) P w K mg base [("value" : PySem.Str), ("sign" : PySem.Str)] ("is_text" : PySem.Str) (defScope (top 7)) f cdv A outer s H E) (fun cls d _ H => E cls d H) := takes_of rfl rfl rfl rfl
  have px := px_takes tk
  have hp : PassesOwn (model P w) (cxOf (L2.CX P w) P w K mg base [("value" : PySem.Str), ("sign" : PySem.Str)] ("is_text" : PySem.Str) (defScope (top 7)) f cdv A outer s H E).A (cxOf (L2.CX P w) P w K mg base [("value" : PySem.Str), ("sign" : PySem.Str)] ("is_text" : PySem.Str) (defScope (top 7)) f cdv A outer s H E).env (cxOf (L2.CX P w) P w K mg base [("value" : PySem.Str), ("sign" : PySem.Str)] ("is_text" : PySem.Str) (defScope (top 7)) f cdv A outer s H E).xe := passes_of rfl
  exact (ss_one (ds_ret (de_and (de_isi rfl T.b_isinstance (da_cons (de_v (pv 0)) (da_cons (de_c (pe_bltn (v := .ty "str") rfl T.b_str (by decide +kernel) rfl) fun _ _ => .raw _) da_nil))) (de_one (de_all rfl rfl T.b_all (da_cons (de_fz (df_lc (own := [(("sign" : PySem.Str), 1)]) rfl nd (di_seq (de_v (pv 0))) (blkOk_by (by kernel_rfl)) (fun _ _ _ _ _ => (dg_name (pg_name (i := 1) nd rfl (by first | exact Or.inl rfl | exact Or.inr rfl)))) (fun _ _ _ _ _ => ts_nil) (fun _ _ _ _ _ => dx_of fun c => (de_lele (de_gs rfl T.c_LEAST_SIGN) (de_v (pv 1)) (de_gs rfl T.c_GREATEST_SIGN))))) da_nil))))))
def is_value_D : MS := (mSeq (mIfS (mTOr (mT (m2 isA (mV 0) (mC .non))) (mT (mA isiD (mCons (mV 0) (mCons (mC (.raw (.ty "bool"))) mNil)))))
  (mRet (mC (.bl true)))
  mSkip)
  (mSeq (mIfS (mT (mCall 1 1 is_integer_D [] (mCons (mV 0) mNil)))
  (mRet (m2 leD (mA absD (mCons (mV 0) mNil)) (mC (.int 999999999999999999999999999999))))
  mSkip)
  (mRet (mAnd (mCall 2 1 is_text_D [] (mCons (mV 0) mNil)) (m2 leD (mA lenD (mCons (mV 0) mNil)) (mC (.int 200)))))))
theorem sc_is_value : FnScope [("value" : PySem.Str)] [("value" : PySem.Str)] (defScope (top 15)) := ⟨rfl, rfl, rfl, by decide +kernel, rfl, by decide +kernel, by decide +kernel⟩
theorem ok_is_value (T : Txt K mg) : Good P w K mg base 2 ("is_value" : PySem.Str) (top 15) [("value" : PySem.Str)] 1 is_value_D := by
  obtain ⟨f1, d1, g1, F1, G1⟩ := (ok_is_integer (P := P) (w := w) (base := base) T).ex
  have b1 := F1.binds (ps := [("value" : PySem.Str)]) (fun _ _ _ _ _ _ us hl => match us, hl with | [_], _ => rfl)
  obtain ⟨f2, d2, g2, F2, G2⟩ := (ok_is_text (P := P) (w := w) (base := base) T).ex
  have b2 := F2.binds (ps := [("value" : PySem.Str)]) (fun _ _ _ _ _ _ us hl => match us, hl with | [_], _ => rfl)
  refine good_mk (k := 1) T.d_is_value sc_is_value fun f cdv A outer s H E c hr => ?_
  have nd := sc_is_value.nd
  have hu := hr.units
  have hu1 := hu_of hr
  have hu5 := units65 hr
  have tk : Takes (cxOf (L2.CX P w) P w K mg base [("value" : PySem.Str)] ("is_value" : PySem.Str) (defScope (top 15)) f cdv A outer s H E) (fun cls d _ H => E cls d H) := takes_of rfl rfl rfl rfl
  have px := px_takes tk
  have hp : PassesOwn (model P w) (cxOf (L2.CX P w) P w K mg base [("value" : PySem.Str)] ("is_value" : PySem.Str) (defScope (top 15)) f cdv A outer s H E).A (cxOf (L2.CX P w) P w K mg base [("value" : PySem.Str)] ("is_value" : PySem.Str) (defScope (top 15)) f cdv A outer s H E).env (cxOf (L2.CX P w) P w K mg base [("value" : PySem.Str)] ("is_value" : PySem.Str) (defScope (top 15)) f cdv A outer s H E).xe := passes_of rfl
  exact (ss_cons (ds_if (dt_w (dw_or (dt_is  (de_v (pv 0)) (de_c pe_non fun _ _ => .non)) (dw_or1 (dt_tru (de_isi rfl T.b_isinstance (da_cons (de_v (pv 0)) (da_cons (de_c (pe_bltn (v := .ty "bool") rfl T.b_bool (by decide +kernel) rfl) fun _ _ => .raw _) da_nil)))))))
  (ss_one (ds_ret (de_c pe_bl fun _ _ => .bl _)))
  ss_nil)
  (ss_cons (ds_if (dt_tru (de_call G1 (hr.mono (by decide)) rfl g1 F1.kp b1 .nil px (fun _ _ => .nil) (da_cons (de_v (pv 0)) da_nil)))
  (ss_one (ds_ret (de_le  (de_abs rfl T.b_abs (da_cons (de_v (pv 0)) da_nil)) (de_gi rfl T.c_MOST_INTEGER))))
  ss_nil)
  (ss_one (ds_ret (de_and (de_call G2 (hr.mono (by decide)) rfl g2 F2.kp b2 .nil px (fun _ _ => .nil) (da_cons (de_v (pv 0)) da_nil)) (de_one (de_le  (de_len rfl T.b_len (da_cons (de_v (pv 0)) da_nil)) (de_gi rfl T.c_MOST_SIGNS))))))))
def value_code_D : MS := (mSeq (mIfS (mTNot (mT (mCall 1 1 is_value_D [] (mCons (mV 0) mNil))))
  (mRaise ⟨("InvalidValue" : PySem.Str), []⟩)
  mSkip)
  (mRet (mCall 1 1 code_of_D [] (mCons (mV 0) mNil))))
theorem sc_value_code : FnScope [("value" : PySem.Str)] [("value" : PySem.Str)] (defScope (top 19)) := ⟨rfl, rfl, rfl, by decide +kernel, rfl, by decide +kernel, by decide +kernel⟩
theorem ok_value_code (T : Txt K mg) : Good P w K mg base 3 ("value_code" : PySem.Str) (top 19) [("value" : PySem.Str)] 1 value_code_D := by
  obtain ⟨f1, d1, g1, F1, G1⟩ := (ok_is_value (P := P) (w := w) (base := base) T).ex
  have b1 := F1.binds (ps := [("value" : PySem.Str)]) (fun _ _ _ _ _ _ us hl => match us, hl with | [_], _ => rfl)
  obtain ⟨f2, d2, g2, F2, G2⟩ := (ok_code_of (P := P) (w := w) (base := base) T).ex
  have b2 := F2.binds (ps := [("value" : PySem.Str)]) (fun _ _ _ _ _ _ us hl => match us, hl with | [_], _ => rfl)
  refine good_mk (k := 2) T.d_value_code sc_value_code fun f cdv A outer s H E c hr => ?_
  have nd := sc_value_code.nd
  have hu := hr.units
  have hu1 := hu_of hr
  have hu5 := units65 hr
  have tk : Takes (cxOf (L2.CX P w) P w K mg base [("value" : PySem.Str)] ("value_code" : PySem.Str) (defScope (top 19)) f cdv A outer s H E) (fun cls d _ H => E cls d H) := takes_of rfl rfl rfl rfl
  have px := px_takes tk
  have hp : PassesOwn (model P w) (cxOf (L2.CX P w) P w K mg base [("value" : PySem.Str)] ("value_code" : PySem.Str) (defScope (top 19)) f cdv A outer s H E).A (cxOf (L2.CX P w) P w K mg base [("value" : PySem.Str)] ("value_code" : PySem.Str) (defScope (top 19)) f cdv A outer s H E).env (cxOf (L2.CX P w) P w K mg base [("value" : PySem.Str)] ("value_code" : PySem.Str) (defScope (top 19)) f cdv A outer s H E).xe := passes_of rfl
  exact (ss_cons (ds_if (dt_not (dt_tru (de_call G1 (hr.mono (by decide)) rfl g1 F1.kp b1 .nil px (fun _ _ => .nil) (da_cons (de_v (pv 0)) da_nil))))
  (ss_one (ds_raiseX T.x_InvalidValue rfl rfl tk))
  ss_nil)
  (ss_one (ds_ret (de_call G2 (hr.mono (by decide)) rfl g2 F2.kp b2 .nil px (fun _ _ => .nil) (da_cons (de_v (pv 0)) da_nil)))))
def _law_told_D : MS := (mSeq (mAsg (mC (.str ("other" : PySem.Str))) (gN 1))
  (mSeq (mTry (mAsg (mTup (mCons (mCall 1 1 value_code_D [] (mCons (mV 0) mNil)) mNil)) (gN 1))
  (hand [(("InvalidValue" : PySem.Str), true)] (mAsg (mC (.str ("value" : PySem.Str))) (gN 1))
  (hand [] (mAsg (mC (.str ("other" : PySem.Str))) (gN 1))
  hEnd)))
  (mRet (mV 1))))
theorem sc__law_told : FnScope [("_law_value_here" : PySem.Str), ("_law_found" : PySem.Str)] [("_law_value_here" : PySem.Str)] (defScope (top 29)) := ⟨rfl, rfl, rfl, by decide +kernel, rfl, by decide +kernel, by decide +kernel⟩
theorem ok__law_told (T : Txt K mg) : Good P w K mg base 4 ("_law_told" : PySem.Str) (top 29) [("_law_value_here" : PySem.Str)] 2 _law_told_D := by
  obtain ⟨f1, d1, g1, F1, G1⟩ := (ok_value_code (P := P) (w := w) (base := base) T).ex
  have b1 := F1.binds (ps := [("value" : PySem.Str)]) (fun _ _ _ _ _ _ us hl => match us, hl with | [_], _ => rfl)
  refine good_mk (k := 3) T.d__law_told sc__law_told fun f cdv A outer s H E c hr => ?_
  have nd := sc__law_told.nd
  have hu := hr.units
  have hu1 := hu_of hr
  have hu5 := units65 hr
  have tk : Takes (cxOf (L2.CX P w) P w K mg base [("_law_value_here" : PySem.Str), ("_law_found" : PySem.Str)] ("_law_told" : PySem.Str) (defScope (top 29)) f cdv A outer s H E) (fun cls d _ H => E cls d H) := takes_of rfl rfl rfl rfl
  have px := px_takes tk
  have hp : PassesOwn (model P w) (cxOf (L2.CX P w) P w K mg base [("_law_value_here" : PySem.Str), ("_law_found" : PySem.Str)] ("_law_told" : PySem.Str) (defScope (top 29)) f cdv A outer s H E).A (cxOf (L2.CX P w) P w K mg base [("_law_value_here" : PySem.Str), ("_law_found" : PySem.Str)] ("_law_told" : PySem.Str) (defScope (top 29)) f cdv A outer s H E).env (cxOf (L2.CX P w) P w K mg base [("_law_value_here" : PySem.Str), ("_law_found" : PySem.Str)] ("_law_told" : PySem.Str) (defScope (top 29)) f cdv A outer s H E).xe := passes_of rfl
  exact (ss_cons (ds_set (i := 1) nd rfl (by first | exact Or.inl rfl | exact Or.inr rfl) (de_c pe_str fun _ _ => .str _))
  (ss_cons (ds_tryX rfl rfl tk (fun W' pn xe tk hp => (ss_one (ds_set (i := 1) nd rfl (by first | exact Or.inl rfl | exact Or.inr rfl) (de_tup (da_cons (de_call G1 (hr.mono (by decide)) rfl g1 F1.kp b1 .nil (px_takes tk) (fun _ _ => .nil) (da_cons (de_v (pv 0)) da_nil)) da_nil)))))
  (hands_cons rfl T.g_InvalidValue.choose_spec (.cons T.e_InvalidValue_InvalidValue ExL.nil) (fun a oe cls d pn => (ss_one (ds_set (i := 1) nd rfl (by first | exact Or.inl rfl | exact Or.inr rfl) (de_c pe_str fun _ _ => .str _))))
  (hands_cons rfl T.g_StoreError.choose_spec ExL.nil (fun a oe cls d pn => (ss_one (ds_set (i := 1) nd rfl (by first | exact Or.inl rfl | exact Or.inr rfl) (de_c pe_str fun _ _ => .str _))))
  hands_nil)))
  (ss_one (ds_ret (de_v (pv 1))))))
def _law_code_D : MS := (mSeq (mIfS (mTOr (mT (m2 isA (mV 0) (mC .non))) (mTOr (mT (m2 isA (mV 0) (mC (.bl false)))) (mT (m2 isA (mV 0) (mC (.bl true))))))
  (mRet (mIf (mT (m2 isA (mV 0) (mC .non))) (mC (.str ("0" : PySem.Str))) (m2 ixA (mLst (mCons (mC (.str ("1" : PySem.Str))) (mCons (mC (.str ("2" : PySem.Str))) mNil))) (mA intD (mCons (mV 0) mNil)))))
  mSkip)
  (mSeq (mAsg (mC (.str ("ABCDEFGHIJKLMNOPQRSTUVWXYZ[\\]^_" : PySem.Str))) (gN 1))
  (mSeq (mIfS (mT (mA isiD (mCons (mV 0) (mCons (mC (.raw (.ty "str"))) mNil))))
  (mRet (m2 addD (m2 addD (mC (.str ("t" : PySem.Str))) (mStr1 joinD (mC (.str ("" : PySem.Str))) (mCons (mFz (mLc [3] (mIter (mV 0)) (gN 3) mYes (mGet2 (mFz (mDisp [((mC (.str (" " : PySem.Str))), (mC (.str ("!a" : PySem.Str)))), ((mC (.str ("!" : PySem.Str))), (mC (.str ("!b" : PySem.Str))))])) (mV 3) (mV 3)))) mNil))) (mC (.str (" " : PySem.Str)))))
  mSkip)
  (mSeq (mIfS (mT (m2 eqD (mV 0) (mC (.int 0))))
  (mRet (mC (.str ("o" : PySem.Str))))
  mSkip)
  (mSeq (mAsg (mA strD (mCons (mA absD (mCons (mV 0) mNil)) mNil)) (gN 2))
  (mSeq (mIfS (mT (m2 gtD (mV 0) (mC (.int 0))))
  (mRet (m2 addD (m2 addD (mC (.str ("p" : PySem.Str))) (m2 ixA (mV 1) (m2 subD (mA lenD (mCons (mV 2) mNil)) (mC (.int 1))))) (mV 2)))
  mSkip)
  (mRet (m2 addD (m2 addD (mC (.str ("n" : PySem.Str))) (m2 ixA (mV 1) (m2 subD (mC (.int 31)) (mA lenD (mCons (mV 2) mNil))))) (mStr1 joinD (mC (.str ("" : PySem.Str))) (mCons (mFz (mLc [4] (mIter (mV 2)) (gN 4) mYes (m2 ixA (mC (.str ("9876543210" : PySem.Str))) (mA intD (mCons (mV 4) mNil))))) mNil))))))))))
theorem sc__law_code : FnScope [("_law_value_here" : PySem.Str), ("_law_counts" : PySem.Str), ("_law_digits" : PySem.Str), ("_law_sign" : PySem.Str), ("_law_digit" : PySem.Str)] [("_law_value_here" : PySem.Str)] (defScope (top 24)) := ⟨rfl, rfl, rfl, by decide +kernel, rfl, by decide +kernel, by decide +kernel⟩
theorem ok__law_code (T : Txt K mg) : Good P w K mg base 1 ("_law_code" : PySem.Str) (top 24) [("_law_value_here" : PySem.Str)] 5 _law_code_D := by
  refine good_mk (k := 0) T.d__law_code sc__law_code fun f cdv A outer s H E c hr => ?_
  have nd := sc__law_code.nd
  have hu := hr.units
  have hu1 := hu_of hr
  have hu5 := units65 hr
  have tk : Takes (cxOf (L2.CX P w) P w K mg base [("_law_value_here" : PySem.Str), ("_law_counts" : PySem.Str), ("_law_digits" : PySem.Str), ("_law_sign" : PySem.Str), ("_law_digit" : PySem.Str)] ("_law_code" : PySem.Str) (defScope (top 24)) f cdv A outer s H E) (fun cls d _ H => E cls d H) := takes_of rfl rfl rfl rfl
  have px := px_takes tk
  have hp : PassesOwn (model P w) (cxOf (L2.CX P w) P w K mg base [("_law_value_here" : PySem.Str), ("_law_counts" : PySem.Str), ("_law_digits" : PySem.Str), ("_law_sign" : PySem.Str), ("_law_digit" : PySem.Str)] ("_law_code" : PySem.Str) (defScope (top 24)) f cdv A outer s H E).A (cxOf (L2.CX P w) P w K mg base [("_law_value_here" : PySem.Str), ("_law_counts" : PySem.Str), ("_law_digits" : PySem.Str), ("_law_sign" : PySem.Str), ("_law_digit" : PySem.Str)] ("_law_code" : PySem.Str) (defScope (top 24)) f cdv A outer s H E).env (cxOf (L2.CX P w) P w K mg base [("_law_value_here" : PySem.Str), ("_law_counts" : PySem.Str), ("_law_digits" : PySem.Str), ("_law_sign" : PySem.Str), ("_law_digit" : PySem.Str)] ("_law_code" : PySem.Str) (defScope (top 24)) f cdv A outer s H E).xe := passes_of rfl
  exact (ss_cons (ds_if (dt_w (dw_or (dt_is  (de_v (pv 0)) (de_c pe_non fun _ _ => .non)) (dw_or (dt_is  (de_v (pv 0)) (de_c pe_bl fun _ _ => .bl _)) (dw_or1 (dt_is  (de_v (pv 0)) (de_c pe_bl fun _ _ => .bl _))))))
  (ss_one (ds_ret (de_if (dt_is  (de_v (pv 0)) (de_c pe_non fun _ _ => .non)) (de_c pe_str fun _ _ => .str _) (de_ixA hu1 (de_lst (da_cons (de_c pe_str fun _ _ => .str _) (da_cons (de_c pe_str fun _ _ => .str _) da_nil))) (de_int rfl T.b_int (da_cons (de_v (pv 0)) da_nil))))))
  ss_nil)
  (ss_cons (ds_set (i := 1) nd rfl (by first | exact Or.inl rfl | exact Or.inr rfl) (de_c pe_str fun _ _ => .str _))
  (ss_cons (ds_if (dt_tru (de_isi rfl T.b_isinstance (da_cons (de_v (pv 0)) (da_cons (de_c (pe_bltn (v := .ty "str") rfl T.b_str (by decide +kernel) rfl) fun _ _ => .raw _) da_nil))))
  (ss_one (ds_ret (de_add (de_add (de_c pe_str fun _ _ => .str _) (de_join (de_c pe_str fun _ _ => .str _) (da_cons (de_fz (df_lc (own := [(("_law_sign" : PySem.Str), 3)]) rfl nd (di_seq (de_v (pv 0))) (blkOk_by (by kernel_rfl)) (fun _ _ _ _ _ => (dg_name (pg_name (i := 3) nd rfl (by first | exact Or.inl rfl | exact Or.inr rfl)))) (fun _ _ _ _ _ => ts_nil) (fun _ _ _ _ _ => dx_of fun c => (de_get2 hu1 (de_fz (df_disp (.cons (fun c => (de_c pe_str fun _ _ => .str _)) (fun c => (de_c pe_str fun _ _ => .str _)) (.cons (fun c => (de_c pe_str fun _ _ => .str _)) (fun c => (de_c pe_str fun _ _ => .str _)) .nil)))) (de_v (pv 3)) (de_v (pv 3)))))) da_nil))) (de_c pe_str fun _ _ => .str _))))
  ss_nil)
  (ss_cons (ds_if (dt_eq hu (de_v (pv 0)) (de_c pe_int fun _ _ => .int _))
  (ss_one (ds_ret (de_c pe_str fun _ _ => .str _)))
  ss_nil)
  (ss_cons (ds_set (i := 2) nd rfl (by first | exact Or.inl rfl | exact Or.inr rfl) (de_str rfl T.b_str (da_cons (de_abs rfl T.b_abs (da_cons (de_v (pv 0)) da_nil)) da_nil)))
  (ss_cons (ds_if (dt_gt  (de_v (pv 0)) (de_c pe_int fun _ _ => .int _))
  (ss_one (ds_ret (de_add (de_add (de_c pe_str fun _ _ => .str _) (de_ixA hu1 (de_v (pv 1)) (de_sub (de_len rfl T.b_len (da_cons (de_v (pv 2)) da_nil)) (de_c pe_int fun _ _ => .int _)))) (de_v (pv 2)))))
  ss_nil)
  (ss_one (ds_ret (de_add (de_add (de_c pe_str fun _ _ => .str _) (de_ixA hu1 (de_v (pv 1)) (de_sub (de_c pe_int fun _ _ => .int _) (de_len rfl T.b_len (da_cons (de_v (pv 2)) da_nil))))) (de_join (de_c pe_str fun _ _ => .str _) (da_cons (de_fz (df_lc (own := [(("_law_digit" : PySem.Str), 4)]) rfl nd (di_seq (de_v (pv 2))) (blkOk_by (by kernel_rfl)) (fun _ _ _ _ _ => (dg_name (pg_name (i := 4) nd rfl (by first | exact Or.inl rfl | exact Or.inr rfl)))) (fun _ _ _ _ _ => ts_nil) (fun _ _ _ _ _ => dx_of fun c => (de_ixA hu1 (de_c pe_str fun _ _ => .str _) (de_int rfl T.b_int (da_cons (de_v (pv 4)) da_nil)))))) da_nil)))))))))))
def _law_bent_D : MS := (mSeq (mPar [1, 2] (mCons (mCall 3 2 _law_drawn_D [] (mCons (mV 0) (mCons (mC (.int 20)) mNil))) (mCons (mCall 3 2 _law_drawn_D [] (mCons (mV 0) (mCons (mC (.int 2)) mNil))) mNil)))
  (mSeq (mAsg (m2 addD (m2 mulD (m2 powD (mC (.int 10)) (mC (.int 30))) (m2 addD (mC (.int 1)) (mCall 3 2 _law_drawn_D [] (mCons (mV 0) (mCons (mC (.int 9)) mNil))))) (m2 mulD (mCall 3 2 _law_drawn_D [] (mCons (mV 0) (mCons (mC (.int 10)) mNil))) (m2 powD (mC (.int 10)) (mC (.int 20))))) (gN 3))
  (mSeq (mAsg (mCall 9 1 _law_text_D [] (mCons (mV 0) mNil)) (gN 4))
  (mSeq (mAsg (m2 mulD (m2 ixA (mLst (mCons (mC (.str (" " : PySem.Str))) (mCons (mC (.str ("a" : PySem.Str))) mNil))) (mV 2)) (m2 subD (mC (.int 201)) (mA lenD (mCons (mV 4) mNil)))) (gN 5))
  (mSeq (mAsg (mLst (mCons (m2 addD (mV 4) (mV 5)) (mCons (m2 addD (mV 5) (mV 4)) (mCons (mV 3) (mCons (m2 subD (mC (.int 0)) (mV 3)) (mCons (m2 powD (mC (.int 10)) (mC (.int 30))) (mCons (m2 subD (mC (.int 0)) (m2 powD (mC (.int 10)) (mC (.int 30)))) (mCons (m2 powD (mC (.int 10)) (mC (.int 60))) (mCons (m2 addD (mSl (mV 4) mNoPart (mPart (mC (.int 9)))) (mC (.str ("\n" : PySem.Str)))) (mCons (m2 addD (mC (.str ("\t" : PySem.Str))) (mSl (mV 4) mNoPart (mPart (mC (.int 9))))) mNil)))))))))) (gN 6))
  (mSeq (mAsg (m2 addD (mV 6) (mLst (mCons (m2 addD (m2 addD (mV 4) (mV 5)) (mV 4)) (mCons (mTup mNil) (mCons (mTup (mCons (mC (.int 1)) mNil)) (mCons (mLst (mCons (mC (.int 1)) mNil)) (mCons (mTup (mCons (mC (.str ("a" : PySem.Str))) mNil)) (mCons (mLst mNil) (mCons (mLst (mCons (mC (.str ("a" : PySem.Str))) mNil)) (mCons (mTup (mCons (mC .non) mNil)) (mCons (mC (.str ("a\nb" : PySem.Str))) (mCons (mLst (mCons (mV 4) mNil)) (mCons (mTup (mCons (mV 4) mNil)) mNil))))))))))))) (gN 6))
  (mRet (m2 ixA (mV 6) (mV 1)))))))))
theorem sc__law_bent : FnScope [("_law_jar_here" : PySem.Str), ("_law_at" : PySem.Str), ("_law_side" : PySem.Str), ("_law_power" : PySem.Str), ("_law_text_here" : PySem.Str), ("_law_rest" : PySem.Str), ("_law_menu" : PySem.Str)] [("_law_jar_here" : PySem.Str)] (defScope (top 28)) := ⟨rfl, rfl, rfl, by decide +kernel, rfl, by decide +kernel, by decide +kernel⟩
theorem ok__law_bent (T : Txt K mg) : Good P w K mg base 3 ("_law_bent" : PySem.Str) (top 28) [("_law_jar_here" : PySem.Str)] 7 _law_bent_D := by
  obtain ⟨f1, d1, g1, F1, G1⟩ := (ok__law_drawn (P := P) (w := w) (base := base) T).ex
  have b1 := F1.binds (ps := [("_law_jar_here" : PySem.Str), ("_law_many" : PySem.Str)]) (fun _ _ _ _ _ _ us hl => match us, hl with | [_, _], _ => rfl)
  obtain ⟨f2, d2, g2, F2, G2⟩ := (ok__law_text (P := P) (w := w) (base := base) T).ex
  have b2 := F2.binds (ps := [("_law_jar_here" : PySem.Str)]) (fun _ _ _ _ _ _ us hl => match us, hl with | [_], _ => rfl)
  refine good_mk (k := 2) T.d__law_bent sc__law_bent fun f cdv A outer s H E c hr => ?_
  have nd := sc__law_bent.nd
  have hu := hr.units
  have hu1 := hu_of hr
  have hu5 := units65 hr
  have tk : Takes (cxOf (L2.CX P w) P w K mg base [("_law_jar_here" : PySem.Str), ("_law_at" : PySem.Str), ("_law_side" : PySem.Str), ("_law_power" : PySem.Str), ("_law_text_here" : PySem.Str), ("_law_rest" : PySem.Str), ("_law_menu" : PySem.Str)] ("_law_bent" : PySem.Str) (defScope (top 28)) f cdv A outer s H E) (fun cls d _ H => E cls d H) := takes_of rfl rfl rfl rfl
  have px := px_takes tk
  have hp : PassesOwn (model P w) (cxOf (L2.CX P w) P w K mg base [("_law_jar_here" : PySem.Str), ("_law_at" : PySem.Str), ("_law_side" : PySem.Str), ("_law_power" : PySem.Str), ("_law_text_here" : PySem.Str), ("_law_rest" : PySem.Str), ("_law_menu" : PySem.Str)] ("_law_bent" : PySem.Str) (defScope (top 28)) f cdv A outer s H E).A (cxOf (L2.CX P w) P w K mg base [("_law_jar_here" : PySem.Str), ("_law_at" : PySem.Str), ("_law_side" : PySem.Str), ("_law_power" : PySem.Str), ("_law_text_here" : PySem.Str), ("_law_rest" : PySem.Str), ("_law_menu" : PySem.Str)] ("_law_bent" : PySem.Str) (defScope (top 28)) f cdv A outer s H E).env (cxOf (L2.CX P w) P w K mg base [("_law_jar_here" : PySem.Str), ("_law_at" : PySem.Str), ("_law_side" : PySem.Str), ("_law_power" : PySem.Str), ("_law_text_here" : PySem.Str), ("_law_rest" : PySem.Str), ("_law_menu" : PySem.Str)] ("_law_bent" : PySem.Str) (defScope (top 28)) f cdv A outer s H E).xe := passes_of rfl
  exact (ss_cons (ds_par (i := 1) (j := 2) rfl nd rfl rfl (by decide) rfl rfl (da_cons (de_call G1 (hr.mono (by decide)) rfl g1 F1.kp b1 .nil px (fun _ _ => .nil) (da_cons (de_v (pv 0)) (da_cons (de_c pe_int fun _ _ => .int _) da_nil))) (da_cons (de_call G1 (hr.mono (by decide)) rfl g1 F1.kp b1 .nil px (fun _ _ => .nil) (da_cons (de_v (pv 0)) (da_cons (de_c pe_int fun _ _ => .int _) da_nil))) da_nil)))
  (ss_cons (ds_set (i := 3) nd rfl (by first | exact Or.inl rfl | exact Or.inr rfl) (de_add (de_mul (de_pow (de_c pe_int fun _ _ => .int _) (de_c pe_int fun _ _ => .int _)) (de_add (de_c pe_int fun _ _ => .int _) (de_call G1 (hr.mono (by decide)) rfl g1 F1.kp b1 .nil px (fun _ _ => .nil) (da_cons (de_v (pv 0)) (da_cons (de_c pe_int fun _ _ => .int _) da_nil))))) (de_mul (de_call G1 (hr.mono (by decide)) rfl g1 F1.kp b1 .nil px (fun _ _ => .nil) (da_cons (de_v (pv 0)) (da_cons (de_c pe_int fun _ _ => .int _) da_nil))) (de_pow (de_c pe_int fun _ _ => .int _) (de_c pe_int fun _ _ => .int _)))))
  (ss_cons (ds_set (i := 4) nd rfl (by first | exact Or.inl rfl | exact Or.inr rfl) (de_call G2 (hr.mono (by decide)) rfl g2 F2.kp b2 .nil px (fun _ _ => .nil) (da_cons (de_v (pv 0)) da_nil)))
  (ss_cons (ds_set (i := 5) nd rfl (by first | exact Or.inl rfl | exact Or.inr rfl) (de_mul (de_ixA hu1 (de_lst (da_cons (de_c pe_str fun _ _ => .str _) (da_cons (de_c pe_str fun _ _ => .str _) da_nil))) (de_v (pv 2))) (de_sub (de_c pe_int fun _ _ => .int _) (de_len rfl T.b_len (da_cons (de_v (pv 4)) da_nil)))))
  (ss_cons (ds_set (i := 6) nd rfl (by first | exact Or.inl rfl | exact Or.inr rfl) (de_lst (da_cons (de_add (de_v (pv 4)) (de_v (pv 5))) (da_cons (de_add (de_v (pv 5)) (de_v (pv 4))) (da_cons (de_v (pv 3)) (da_cons (de_sub (de_c pe_int fun _ _ => .int _) (de_v (pv 3))) (da_cons (de_pow (de_c pe_int fun _ _ => .int _) (de_c pe_int fun _ _ => .int _)) (da_cons (de_sub (de_c pe_int fun _ _ => .int _) (de_pow (de_c pe_int fun _ _ => .int _) (de_c pe_int fun _ _ => .int _))) (da_cons (de_pow (de_c pe_int fun _ _ => .int _) (de_c pe_int fun _ _ => .int _)) (da_cons (de_add (de_sl (de_v (pv 4)) do_none (do_some (de_c pe_int fun _ _ => .int _))) (de_c pe_str fun _ _ => .str _)) (da_cons (de_add (de_c pe_str fun _ _ => .str _) (de_sl (de_v (pv 4)) do_none (do_some (de_c pe_int fun _ _ => .int _)))) da_nil)))))))))))
  (ss_cons (ds_set (i := 6) nd rfl (by first | exact Or.inl rfl | exact Or.inr rfl) (de_add (de_v (pv 6)) (de_lst (da_cons (de_add (de_add (de_v (pv 4)) (de_v (pv 5))) (de_v (pv 4))) (da_cons (de_tup da_nil) (da_cons (de_tup (da_cons (de_c pe_int fun _ _ => .int _) da_nil)) (da_cons (de_lst (da_cons (de_c pe_int fun _ _ => .int _) da_nil)) (da_cons (de_tup (da_cons (de_c pe_str fun _ _ => .str _) da_nil)) (da_cons (de_lst da_nil) (da_cons (de_lst (da_cons (de_c pe_str fun _ _ => .str _) da_nil)) (da_cons (de_tup (da_cons (de_c pe_non fun _ _ => .non) da_nil)) (da_cons (de_c pe_str fun _ _ => .str _) (da_cons (de_lst (da_cons (de_v (pv 4)) da_nil)) (da_cons (de_tup (da_cons (de_v (pv 4)) da_nil)) da_nil))))))))))))))
  (ss_one (ds_ret (de_ixA hu1 (de_v (pv 6)) (de_v (pv 1)))))))))))
def law_D : MS := (mSeq (mAsg (mLst (mCons (mC .non) (mCons (mC (.bl false)) (mCons (mC (.bl true)) (mCons (mC (.int 0)) (mCons (mC (.int 1)) (mCons (m1 negD (mC (.int 1))) (mCons (mC (.int 9)) (mCons (m1 negD (mC (.int 9))) (mCons (mC (.int 10)) (mCons (m1 negD (mC (.int 10))) (mCons (mC (.int 99)) (mCons (m1 negD (mC (.int 99))) (mCons (m2 subD (m2 powD (mC (.int 10)) (mC (.int 30))) (mC (.int 1))) (mCons (m2 subD (mC (.int 1)) (m2 powD (mC (.int 10)) (mC (.int 30)))) (mCons (m2 powD (mC (.int 10)) (mC (.int 29))) (mCons (m2 subD (mC (.int 0)) (m2 powD (mC (.int 10)) (mC (.int 29)))) mNil))))))))))))))))) (gN 1))
  (mSeq (mAsg (m2 addD (mV 1) (mLst (mCons (mC (.str ("" : PySem.Str))) (mCons (mC (.str (" " : PySem.Str))) (mCons (mC (.str ("!" : PySem.Str))) (mCons (mC (.str ("!a" : PySem.Str))) (mCons (mC (.str ("!b" : PySem.Str))) (mCons (mC (.str (" a" : PySem.Str))) (mCons (mC (.str ("0" : PySem.Str))) (mCons (mC (.str ("t" : PySem.Str))) (mCons (mC (.str ("o" : PySem.Str))) (mCons (m2 mulD (mC (.str ("a" : PySem.Str))) (mC (.int 200))) (mCons (m2 mulD (mC (.str (" " : PySem.Str))) (mC (.int 200))) (mCons (m2 mulD (mC (.str ("!" : PySem.Str))) (mC (.int 200))) (mCons (mCall 1 0 _law_signs_D [] mNil) mNil))))))))))))))) (gN 1))
  (mSeq (mFor (mIter (mV 1)) (gN 2)
  (mIfS (mT (m2 neD (mCall 2 1 _law_told_D [] (mCons (mV 2) mNil)) (mTup (mCons (mCall 5 1 _law_code_D [] (mCons (mV 2) mNil)) mNil))))
  (mRet (mC (.bl false)))
  mSkip))
  (mSeq (mFor (mIter (m2 addD (mLst (mCons (mC (.int 7)) mNil)) (mSl (mV 0) mNoPart (mPart (mC (.int 40)))))) (gN 3)
  (mSeq (mOwn (mCallF 1 1 _law_jar_D [] (mCons (mV 3) mNil)) 4)
  (mSeq (mAsg (mCall 2 1 _law_value_D [] (mCons (mV 4) mNil)) (gN 2))
  (mSeq (mAsg (mCall 2 1 _law_told_D [] (mCons (mV 2) mNil)) (gN 5))
  (mSeq (mIfS (mTOr (mTNot (mT (mA isiD (mCons (mV 5) (mCons (mC (.raw (.ty "tuple"))) mNil))))) (mTOr (mTNot (mT (mA isiD (mCons (m2 ixA (mV 5) (mC (.int 0))) (mCons (mC (.raw (.ty "str"))) mNil))))) (mT (m2 neD (m2 ixA (mV 5) (mC (.int 0))) (mCall 5 1 _law_code_D [] (mCons (mV 2) mNil))))))
  (mRet (mC (.bl false)))
  mSkip)
  (mIfS (mTOr (mT (m2 neD (mCall 2 1 _law_told_D [] (mCons (mCall 7 1 _law_bent_D [] (mCons (mV 4) mNil)) mNil)) (mC (.str ("value" : PySem.Str))))) (mT (m2 neD (mCall 1 1 value_code_D [] (mPick 0 1 [0] mNil (mCons (mV 2) mNil))) (mCall 5 1 _law_code_D [] (mCons (mV 2) mNil)))))
  (mRet (mC (.bl false)))
  mSkip))))))
  (mRet (mC (.bl true)))))))
theorem sc_law : FnScope [("_law_script" : PySem.Str), ("_law_edges" : PySem.Str), ("_law_value_here" : PySem.Str), ("_law_cell" : PySem.Str), ("_law_jar_here" : PySem.Str), ("_law_found" : PySem.Str)] [("_law_script" : PySem.Str)] (defScope (top 30)) := ⟨rfl, rfl, rfl, by decide +kernel, rfl, by decide +kernel, by decide +kernel⟩
theorem ok_law (T : Txt K mg) : Good P w K mg base 5 ("law" : PySem.Str) (top 30) [("_law_script" : PySem.Str)] 6 law_D := by
  obtain ⟨f1, d1, g1, F1, G1⟩ := (ok__law_signs (P := P) (w := w) (base := base) T).ex
  have b1 := F1.binds (ps := []) (fun _ _ _ _ _ _ us hl => match us, hl with | [], _ => rfl)
  obtain ⟨f2, d2, g2, F2, G2⟩ := (ok__law_told (P := P) (w := w) (base := base) T).ex
  have b2 := F2.binds (ps := [("_law_value_here" : PySem.Str)]) (fun _ _ _ _ _ _ us hl => match us, hl with | [_], _ => rfl)
  obtain ⟨f3, d3, g3, F3, G3⟩ := (ok__law_code (P := P) (w := w) (base := base) T).ex
  have b3 := F3.binds (ps := [("_law_value_here" : PySem.Str)]) (fun _ _ _ _ _ _ us hl => match us, hl with | [_], _ => rfl)
  obtain ⟨f4, d4, g4, F4, G4⟩ := (ok__law_jar (P := P) (w := w) (base := base) T).ex
  have b4 := F4.binds (ps := [("_law_cell" : PySem.Str)]) (fun _ _ _ _ _ _ us hl => match us, hl with | [_], _ => rfl)
  obtain ⟨f5, d5, g5, F5, G5⟩ := (ok__law_value (P := P) (w := w) (base := base) T).ex
  have b5 := F5.binds (ps := [("_law_jar_here" : PySem.Str)]) (fun _ _ _ _ _ _ us hl => match us, hl with | [_], _ => rfl)
  obtain ⟨f6, d6, g6, F6, G6⟩ := (ok__law_bent (P := P) (w := w) (base := base) T).ex
  have b6 := F6.binds (ps := [("_law_jar_here" : PySem.Str)]) (fun _ _ _ _ _ _ us hl => match us, hl with | [_], _ => rfl)
  obtain ⟨f7, d7, g7, F7, G7⟩ := (ok_value_code (P := P) (w := w) (base := base) T).ex
  have b7 := F7.binds (ps := [("value" : PySem.Str)]) (fun _ _ _ _ _ _ us hl => match us, hl with | [_], _ => rfl)
  refine good_mk (k := 4) T.d_law sc_law fun f cdv A outer s H E c hr => ?_
  have nd := sc_law.nd
  have hu := hr.units
  have hu1 := hu_of hr
  have hu5 := units65 hr
  have tk : Takes (cxOf (L2.CX P w) P w K mg base [("_law_script" : PySem.Str), ("_law_edges" : PySem.Str), ("_law_value_here" : PySem.Str), ("_law_cell" : PySem.Str), ("_law_jar_here" : PySem.Str), ("_law_found" : PySem.Str)] ("law" : PySem.Str) (defScope (top 30)) f cdv A outer s H E) (fun cls d _ H => E cls d H) := takes_of rfl rfl rfl rfl
  have px := px_takes tk
  have hp : PassesOwn (model P w) (cxOf (L2.CX P w) P w K mg base [("_law_script" : PySem.Str), ("_law_edges" : PySem.Str), ("_law_value_here" : PySem.Str), ("_law_cell" : PySem.Str), ("_law_jar_here" : PySem.Str), ("_law_found" : PySem.Str)] ("law" : PySem.Str) (defScope (top 30)) f cdv A outer s H E).A (cxOf (L2.CX P w) P w K mg base [("_law_script" : PySem.Str), ("_law_edges" : PySem.Str), ("_law_value_here" : PySem.Str), ("_law_cell" : PySem.Str), ("_law_jar_here" : PySem.Str), ("_law_found" : PySem.Str)] ("law" : PySem.Str) (defScope (top 30)) f cdv A outer s H E).env (cxOf (L2.CX P w) P w K mg base [("_law_script" : PySem.Str), ("_law_edges" : PySem.Str), ("_law_value_here" : PySem.Str), ("_law_cell" : PySem.Str), ("_law_jar_here" : PySem.Str), ("_law_found" : PySem.Str)] ("law" : PySem.Str) (defScope (top 30)) f cdv A outer s H E).xe := passes_of rfl
  exact (ss_cons (ds_set (i := 1) nd rfl (by first | exact Or.inl rfl | exact Or.inr rfl) (de_lst (da_cons (de_c pe_non fun _ _ => .non) (da_cons (de_c pe_bl fun _ _ => .bl _) (da_cons (de_c pe_bl fun _ _ => .bl _) (da_cons (de_c pe_int fun _ _ => .int _) (da_cons (de_c pe_int fun _ _ => .int _) (da_cons (de_neg (de_c pe_int fun _ _ => .int _)) (da_cons (de_c pe_int fun _ _ => .int _) (da_cons (de_neg (de_c pe_int fun _ _ => .int _)) (da_cons (de_c pe_int fun _ _ => .int _) (da_cons (de_neg (de_c pe_int fun _ _ => .int _)) (da_cons (de_c pe_int fun _ _ => .int _) (da_cons (de_neg (de_c pe_int fun _ _ => .int _)) (da_cons (de_sub (de_pow (de_c pe_int fun _ _ => .int _) (de_c pe_int fun _ _ => .int _)) (de_c pe_int fun _ _ => .int _)) (da_cons (de_sub (de_c pe_int fun _ _ => .int _) (de_pow (de_c pe_int fun _ _ => .int _) (de_c pe_int fun _ _ => .int _))) (da_cons (de_pow (de_c pe_int fun _ _ => .int _) (de_c pe_int fun _ _ => .int _)) (da_cons (de_sub (de_c pe_int fun _ _ => .int _) (de_pow (de_c pe_int fun _ _ => .int _) (de_c pe_int fun _ _ => .int _))) da_nil))))))))))))))))))
  (ss_cons (ds_set (i := 1) nd rfl (by first | exact Or.inl rfl | exact Or.inr rfl) (de_add (de_v (pv 1)) (de_lst (da_cons (de_c pe_str fun _ _ => .str _) (da_cons (de_c pe_str fun _ _ => .str _) (da_cons (de_c pe_str fun _ _ => .str _) (da_cons (de_c pe_str fun _ _ => .str _) (da_cons (de_c pe_str fun _ _ => .str _) (da_cons (de_c pe_str fun _ _ => .str _) (da_cons (de_c pe_str fun _ _ => .str _) (da_cons (de_c pe_str fun _ _ => .str _) (da_cons (de_c pe_str fun _ _ => .str _) (da_cons (de_mul (de_c pe_str fun _ _ => .str _) (de_c pe_int fun _ _ => .int _)) (da_cons (de_mul (de_c pe_str fun _ _ => .str _) (de_c pe_int fun _ _ => .int _)) (da_cons (de_mul (de_c pe_str fun _ _ => .str _) (de_c pe_int fun _ _ => .int _)) (da_cons (de_call0 G1 (hr.mono (by decide)) rfl g1 F1.kp b1 .nil px (fun _ _ => .nil)) da_nil))))))))))))))))
  (ss_cons (ds_for hp rfl (di_seq (de_v (pv 1))) (dg_name (pg_name (i := 2) nd rfl (by first | exact Or.inl rfl | exact Or.inr rfl)))
  (ss_one (ds_if (dt_ne hu (de_call G2 (hr.mono (by decide)) rfl g2 F2.kp b2 .nil px (fun _ _ => .nil) (da_cons (de_v (pv 2)) da_nil)) (de_tup (da_cons (de_call G3 (hr.mono (by decide)) rfl g3 F3.kp b3 .nil px (fun _ _ => .nil) (da_cons (de_v (pv 2)) da_nil)) da_nil)))
  (ss_one (ds_ret (de_c pe_bl fun _ _ => .bl _)))
  ss_nil)))
  (ss_cons (ds_for hp rfl (di_seq (de_add (de_lst (da_cons (de_c pe_int fun _ _ => .int _) da_nil)) (de_sl (de_v (pv 0)) do_none (do_some (de_c pe_int fun _ _ => .int _))))) (dg_name (pg_name (i := 3) nd rfl (by first | exact Or.inl rfl | exact Or.inr rfl)))
  (ss_cons (ds_own (i := 4) nd rfl (by first | exact Or.inl rfl | exact Or.inr rfl) (df_call G4 (hr.mono (by decide)) rfl g4 F4.kp b4 .nil px (fun _ _ => .nil) (da_cons (de_v (pv 3)) da_nil)))
  (ss_cons (ds_set (i := 2) nd rfl (by first | exact Or.inl rfl | exact Or.inr rfl) (de_call G5 (hr.mono (by decide)) rfl g5 F5.kp b5 .nil px (fun _ _ => .nil) (da_cons (de_v (pv 4)) da_nil)))
  (ss_cons (ds_set (i := 5) nd rfl (by first | exact Or.inl rfl | exact Or.inr rfl) (de_call G2 (hr.mono (by decide)) rfl g2 F2.kp b2 .nil px (fun _ _ => .nil) (da_cons (de_v (pv 2)) da_nil)))
  (ss_cons (ds_if (dt_w (dw_or (dt_not (dt_tru (de_isi rfl T.b_isinstance (da_cons (de_v (pv 5)) (da_cons (de_c (pe_bltn (v := .ty "tuple") rfl T.b_tuple (by decide +kernel) rfl) fun _ _ => .raw _) da_nil))))) (dw_or (dt_not (dt_tru (de_isi rfl T.b_isinstance (da_cons (de_ixA hu1 (de_v (pv 5)) (de_c pe_int fun _ _ => .int _)) (da_cons (de_c (pe_bltn (v := .ty "str") rfl T.b_str (by decide +kernel) rfl) fun _ _ => .raw _) da_nil))))) (dw_or1 (dt_ne hu (de_ixA hu1 (de_v (pv 5)) (de_c pe_int fun _ _ => .int _)) (de_call G3 (hr.mono (by decide)) rfl g3 F3.kp b3 .nil px (fun _ _ => .nil) (da_cons (de_v (pv 2)) da_nil)))))))
  (ss_one (ds_ret (de_c pe_bl fun _ _ => .bl _)))
  ss_nil)
  (ss_one (ds_if (dt_w (dw_or (dt_ne hu (de_call G2 (hr.mono (by decide)) rfl g2 F2.kp b2 .nil px (fun _ _ => .nil) (da_cons (de_call G6 (hr.mono (by decide)) rfl g6 F6.kp b6 .nil px (fun _ _ => .nil) (da_cons (de_v (pv 4)) da_nil)) da_nil)) (de_c pe_str fun _ _ => .str _)) (dw_or1 (dt_ne hu (de_callK0 (is := [0]) (ks := [("value" : PySem.Str)]) G7 (hr.mono (by decide)) rfl g7 F7.kp (kpick_of F7 (fun _ _ _ _ _ _ us ws h1 h2 => match us, ws, h1, h2 with | [], [_], _, _ => rfl)) px (dk_cons (de_v (pv 2)) dk_nil)) (de_call G3 (hr.mono (by decide)) rfl g3 F3.kp b3 .nil px (fun _ _ => .nil) (da_cons (de_v (pv 2)) da_nil))))))
  (ss_one (ds_ret (de_c pe_bl fun _ _ => .bl _)))
  ss_nil)))))))
  (ss_one (ds_ret (de_c pe_bl fun _ _ => .bl _)))))))
end
end DL
set_option Elab.async false
set_option linter.all false
set_option maxRecDepth 100000
set_option autoImplicit false
set_option maxHeartbeats 400000
namespace DL
open PySem PySem.Spec PyProof.Rows L2
theorem ix0 {a b : D} : ixD (.lst [a, b]) (.int 0) = some a := rfl
theorem ix1 {a b : D} : ixD (.lst [a, b]) (.int 1) = some b := rfl
theorem mod_int {i j : Int} (h : 0 < j) : modD (.int i) (.int j) = some (.int (i % j)) := by show (if 0 < j then some (D.int (i % j)) else none) = _; rw [if_pos h]
theorem mod_b {z j : Int} (h : 0 < j) : 0 ≤ z % j ∧ z % j < j := ⟨Int.emod_nonneg _ (by omega), Int.emod_lt_of_pos _ h⟩
theorem fdiv_int {i j : Int} (h : 0 < j) (h2 : j < 2 ^ 64) : fdivD (.int i) (.int j) = some (.int (i / j)) := by
  show (if 0 < j ∧ j.natAbs.log2 < 9000 then some (D.int (i / j)) else none) = _
  have := log_small (n := 64) (z := j) (by omega) h2
  rw [if_pos ⟨h, by omega⟩]
theorem mul_int {i j : Int} (h : 0 ≤ i) (h2 : i < 2 ^ 200) (h3 : 0 ≤ j) (h4 : j < 2 ^ 200) : mulD (.int i) (.int j) = some (.int (i * j)) := by
  unfold mulD
  have := log_small (n := 200) h h2
  have := log_small (n := 200) h3 h4
  simp only
  rw [if_pos (by omega)]
theorem drawn_body {a b n : Int} (hb : 0 ≤ b ∧ b < 4294967296) (hn : 0 < n) (hn2 : n < 2 ^ 64) : ∃ r a' b' δr, _law_drawn_D [.bor (jar a b), .val (.int n), .no] = .ret (.val (.int r)) (.bor (jar a' b') :: δr) ∧ 0 ≤ r ∧ r < n ∧ 0 ≤ b' ∧ b' < 4294967296 := by
  by_cases ha : 0 < a
  · refine ⟨a % n, a / n, b, [.val (.int n), .val (.int (a % n))], ?_, (mod_b hn).1, (mod_b hn).2, hb⟩
    simp only [_law_drawn_D, ev_setix, sa_lst, sb_lst, ixN_j0, ixN_j1, ev_getR, sg_own, sg_bor, ev_putR, sp_own, sp_bor, so_some, ev_C, ev_V, sv_val, sv_own, sv_bor, ev_1, ev_2, ev_nil, ev_cons, ev_A, ev_If, ev_T, ev_Or, ev_And, ev_Not, ev_TOr, ev_TAnd, ev_TNot, ev_Tup, ev_Lst, ev_LstF, ev_Fz, ev_Str1C, ev_bind, ev_bindX, ev_out, ev_outX, ev_opt, ev_seq, so_nx, so_ret, so_exc, ev_skip, ev_ifS, ao_some, ev_asg, ev_gN, ev_nob, sn_no, sn_val, sn_own, ev_own, ev_par, ev_gTl0, ev_gTl1, ev_gT, ev_ret, ev_retF, ev_expr, ev_raise, ev_for, ev_iter, ev_iterA, ev_sl, ev_noP, ev_partC, dr_slot, sr_own, sr_bor, sr_ownD, dr_non, dr_bl, dr_int, dr_str, dr_tup, dr_lst, dr_ro, dr_dic, dr_raw, u_non, u_bl, u_int, u_str, u_tup, u_lst, u_ro, u_dic, u_raw, tr_bl, ixA_lst, ixA_ro, ixA_tup, ixA_str, gt_int, ge_int, lt_int, le_int, add_int, sub_int, int_int, eq_int, List.getElem?_cons_zero, List.getElem?_cons_succ, List.set_cons_zero, List.set_cons_succ, List.map_cons, List.map_nil, List.all_cons, List.all_nil, Bool.and_self, Bool.and_true, Bool.true_and, and_self, and_true, true_and, if_true, if_false, ite_true, ite_false, Option.bind_some, Bool.false_eq_true, decide_true, decide_false, Bool.not_true, Bool.not_false, ix0, ix1, mod_int hn, fdiv_int hn hn2, ha]
  · have q := mod_b (z := b * 48271 + 12820163) (j := 2147483647) (by decide)
    have e1 : mulD (.int b) (.int 48271) = some (.int (b * 48271)) := mul_int hb.1 (by omega) (by decide) (by decide)
    have e2 : mulD (.int ((b * 48271 + 12820163) % 2147483647)) (.int ((b * 48271 + 12820163) % 2147483647)) = some (.int ((b * 48271 + 12820163) % 2147483647 * ((b * 48271 + 12820163) % 2147483647))) := mul_int q.1 (by omega) q.1 (by omega)
    refine ⟨(b * 48271 + 12820163) % 2147483647 * ((b * 48271 + 12820163) % 2147483647) % 2147483629 / 64 % n, a, (b * 48271 + 12820163) % 2147483647, [.val (.int n), .no], ?_, (mod_b hn).1, (mod_b hn).2, q.1, by omega⟩
    simp only [_law_drawn_D, ev_setix, sa_lst, sb_lst, ixN_j0, ixN_j1, ev_getR, sg_own, sg_bor, ev_putR, sp_own, sp_bor, so_some, ev_C, ev_V, sv_val, sv_own, sv_bor, ev_1, ev_2, ev_nil, ev_cons, ev_A, ev_If, ev_T, ev_Or, ev_And, ev_Not, ev_TOr, ev_TAnd, ev_TNot, ev_Tup, ev_Lst, ev_LstF, ev_Fz, ev_Str1C, ev_bind, ev_bindX, ev_out, ev_outX, ev_opt, ev_seq, so_nx, so_ret, so_exc, ev_skip, ev_ifS, ao_some, ev_asg, ev_gN, ev_nob, sn_no, sn_val, sn_own, ev_own, ev_par, ev_gTl0, ev_gTl1, ev_gT, ev_ret, ev_retF, ev_expr, ev_raise, ev_for, ev_iter, ev_iterA, ev_sl, ev_noP, ev_partC, dr_slot, sr_own, sr_bor, sr_ownD, dr_non, dr_bl, dr_int, dr_str, dr_tup, dr_lst, dr_ro, dr_dic, dr_raw, u_non, u_bl, u_int, u_str, u_tup, u_lst, u_ro, u_dic, u_raw, tr_bl, ixA_lst, ixA_ro, ixA_tup, ixA_str, gt_int, ge_int, lt_int, le_int, add_int, sub_int, int_int, eq_int, List.getElem?_cons_zero, List.getElem?_cons_succ, List.set_cons_zero, List.set_cons_succ, List.map_cons, List.map_nil, List.all_cons, List.all_nil, Bool.and_self, Bool.and_true, Bool.true_and, and_self, and_true, true_and, if_true, if_false, ite_true, ite_false, Option.bind_some, Bool.false_eq_true, decide_true, decide_false, Bool.not_true, Bool.not_false, ix0, ix1, mod_int hn, e1, mod_int (show (0 : Int) < 2147483647 by decide), e2, mod_int (show (0 : Int) < 2147483629 by decide), fdiv_int (show (0 : Int) < 64 by decide) (by decide), ha]
abbrev JarB (b : Int) : Prop := 0 ≤ b ∧ b < 4294967296
theorem drawn_call {mk : R → Slot} (hmk : mk = Slot.own ∨ mk = Slot.bor) {δ : Dl} {j : Nat} {a b n : Int} {ms : ML} (hb : JarB b) (h : δ[j]? = some (mk (jar a b))) (hms : ms δ = .ok [.slot j, .int n] δ) (hn : 0 < n) (hn2 : n < 2 ^ 64) :
    ∃ r a' b', mCall 3 2 _law_drawn_D [] ms δ = .ok (.int r) (δ.set j (mk (jar a' b'))) ∧ 0 ≤ r ∧ r < n ∧ JarB b' := by
  obtain ⟨r, a', b', δr, e, h1, h2, h3⟩ := drawn_body (a := a) hb hn hn2
  exact ⟨r, a', b', call_jar (np := 2) hmk hms rfl rfl h e rfl, h1, h2, h3⟩
theorem jar_body (z : Int) : ∃ a b δ', _law_jar_D [.val (.int z)] = .ret (.own (jar a b)) δ' ∧ JarB b := by
  have p1 : powD (.int 10) (.int 64) = some (.int (10 ^ 64)) := rfl
  have m1 : mulD (.int (10 ^ 64)) (.int (10 ^ 64)) = some (.int (10 ^ 64 * 10 ^ 64)) := rfl
  have m2 : mulD (.int (10 ^ 64 * 10 ^ 64)) (.int (10 ^ 64)) = some (.int (10 ^ 64 * 10 ^ 64 * 10 ^ 64)) := rfl
  have p2 : powD (.int 10) (.int 18) = some (.int (10 ^ 18)) := rfl
  have q := mod_b (z := z % (10 ^ 64 * 10 ^ 64 * 10 ^ 64)) (j := 2147483629) (by decide)
  have e3 : modD (.int z) (.int (10 ^ 64 * 10 ^ 64 * 10 ^ 64)) = some (.int (z % (10 ^ 64 * 10 ^ 64 * 10 ^ 64))) := mod_int (by decide)
  generalize hZ : z % (10 ^ 64 * 10 ^ 64 * 10 ^ 64) = Z at e3 q
  refine ⟨if Z - 10 ^ 18 > 0 then Z - 10 ^ 18 else 0, Z % 2147483629 + 3, [.val (.int Z)], ?_, by constructor <;> omega⟩
  simp only [_law_jar_D, ev_setix, sa_lst, sb_lst, ixN_j0, ixN_j1, ev_getR, sg_own, sg_bor, ev_putR, sp_own, sp_bor, so_some, ev_C, ev_V, sv_val, sv_own, sv_bor, ev_1, ev_2, ev_nil, ev_cons, ev_A, ev_If, ev_T, ev_Or, ev_And, ev_Not, ev_TOr, ev_TAnd, ev_TNot, ev_Tup, ev_Lst, ev_LstF, ev_Fz, ev_Str1C, ev_bind, ev_bindX, ev_out, ev_outX, ev_opt, ev_seq, so_nx, so_ret, so_exc, ev_skip, ev_ifS, ao_some, ev_asg, ev_gN, ev_nob, sn_no, sn_val, sn_own, ev_own, ev_par, ev_gTl0, ev_gTl1, ev_gT, ev_ret, ev_retF, ev_expr, ev_raise, ev_for, ev_iter, ev_iterA, ev_sl, ev_noP, ev_partC, dr_slot, sr_own, sr_bor, sr_ownD, dr_non, dr_bl, dr_int, dr_str, dr_tup, dr_lst, dr_ro, dr_dic, dr_raw, u_non, u_bl, u_int, u_str, u_tup, u_lst, u_ro, u_dic, u_raw, tr_bl, ixA_lst, ixA_ro, ixA_tup, ixA_str, gt_int, ge_int, lt_int, le_int, add_int, sub_int, int_int, eq_int, List.getElem?_cons_zero, List.getElem?_cons_succ, List.set_cons_zero, List.set_cons_succ, List.map_cons, List.map_nil, List.all_cons, List.all_nil, Bool.and_self, Bool.and_true, Bool.true_and, and_self, and_true, true_and, if_true, if_false, ite_true, ite_false, Option.bind_some, Bool.false_eq_true, decide_true, decide_false, Bool.not_true, Bool.not_false, p1, m1, m2, p2, e3, mod_int (show (0 : Int) < 2147483629 by decide), max2D]
  rfl
abbrev dN (mn : ME) : ME := mCall 3 2 _law_drawn_D [] (mCons (mV 0) (mCons mn mNil))
theorem dr {a b : Int} (n : Int) (hb : JarB b) (hn : 0 < n) (hn2 : n < 2 ^ 64) : ∃ r a' b', (∀ (rest : Dl) (mn : ME), mn (.bor (jar a b) :: rest) = .ok (.int n) (.bor (jar a b) :: rest) → mCall 3 2 _law_drawn_D [] (mCons (mV 0) (mCons mn mNil)) (.bor (jar a b) :: rest) = .ok (.int r) (.bor (jar a' b') :: rest)) ∧ 0 ≤ r ∧ r < n ∧ JarB b' := by
  obtain ⟨r, a', b', δr, e, h1, h2, h3⟩ := drawn_body (a := a) hb hn hn2
  refine ⟨r, a', b', fun rest mn hm => ?_, h1, h2, h3⟩
  have hms : mCons (mV 0) (mCons mn mNil) (.bor (jar a b) :: rest) = .ok [.slot 0, .int n] (.bor (jar a b) :: rest) := by
    simp only [ev_setix, sa_lst, sb_lst, ixN_j0, ixN_j1, ev_getR, sg_own, sg_bor, ev_putR, sp_own, sp_bor, so_some, ev_C, ev_V, sv_val, sv_own, sv_bor, ev_1, ev_2, ev_nil, ev_cons, ev_A, ev_If, ev_T, ev_Or, ev_And, ev_Not, ev_TOr, ev_TAnd, ev_TNot, ev_Tup, ev_Lst, ev_LstF, ev_Fz, ev_Str1C, ev_bind, ev_bindX, ev_out, ev_outX, ev_opt, ev_seq, so_nx, so_ret, so_exc, ev_skip, ev_ifS, ao_some, ev_asg, ev_gN, ev_nob, sn_no, sn_val, sn_own, ev_own, ev_par, ev_gTl0, ev_gTl1, ev_gT, ev_ret, ev_retF, ev_expr, ev_raise, ev_for, ev_iter, ev_iterA, ev_sl, ev_noP, ev_partC, dr_slot, sr_own, sr_bor, sr_ownD, dr_non, dr_bl, dr_int, dr_str, dr_tup, dr_lst, dr_ro, dr_dic, dr_raw, u_non, u_bl, u_int, u_str, u_tup, u_lst, u_ro, u_dic, u_raw, tr_bl, ixA_lst, ixA_ro, ixA_tup, ixA_str, gt_int, ge_int, lt_int, le_int, add_int, sub_int, int_int, eq_int, List.getElem?_cons_zero, List.getElem?_cons_succ, List.set_cons_zero, List.set_cons_succ, List.map_cons, List.map_nil, List.all_cons, List.all_nil, Bool.and_self, Bool.and_true, Bool.true_and, and_self, and_true, true_and, if_true, if_false, ite_true, ite_false, Option.bind_some, Bool.false_eq_true, decide_true, decide_false, Bool.not_true, Bool.not_false, hm]
  exact call_jar (mk := Slot.bor) (np := 2) (.inr rfl) hms rfl rfl rfl e rfl
theorem for_nil {g : MG} {b : MS} {δ : Dl} : forGo g b [] δ = .nx δ := rfl
theorem for_cons {g : MG} {b : MS} {δ δ1 δ2 : Dl} {x : D} {xs : List D} (h : g x δ = some δ1) (h2 : b δ1 = .nx δ2) : forGo g b (x :: xs) δ = forGo g b xs δ2 := by
  conv => lhs; unfold forGo
  rw [h]
  simp only [h2]
theorem p10 {m : Nat} (h : m ≤ 31) : 1 ≤ 10 ^ m ∧ 10 ^ m ≤ 10000000000000000000000000000000 := by
  refine ⟨Nat.one_le_pow _ _ (by decide), ?_⟩
  exact Nat.le_trans (Nat.pow_le_pow_right (by decide) h) (by decide)
theorem pow_loop {s0 s1 s2 s3 s6 : Slot} : ∀ (n m : Nat) (lo : Int) (s5 : Slot), m + n ≤ 30 → slotN (some s5) = true → ∃ s5', slotN (some s5') = true ∧ forGo (gN 5) (mAsg (m2 mulD (mV 4) (mC (.int 10))) (gN 4)) (rngL lo n) [s0, s1, s2, s3, .val (.int ((10 ^ m : Nat) : Int)), s5, s6] = .nx [s0, s1, s2, s3, .val (.int ((10 ^ (m + n) : Nat) : Int)), s5', s6]
  | 0, m, lo, s5, h, hs => ⟨s5, hs, rfl⟩
  | n + 1, m, lo, s5, h, hs => by
    obtain ⟨s5', h1, h2⟩ := pow_loop (s0 := s0) (s1 := s1) (s2 := s2) (s3 := s3) (s6 := s6) n (m + 1) (lo + 1) (.val (.int lo)) (by omega) rfl
    have hp := p10 (m := m) (by omega)
    have e1 : mulD (.int ((10 ^ m : Nat) : Int)) (.int 10) = some (.int ((10 ^ (m + 1) : Nat) : Int)) := by
      rw [mul_int (by omega) (by omega) (by decide) (by decide), Nat.pow_succ]
      push_cast
      rfl
    refine ⟨s5', h1, ?_⟩
    rw [show m + (n + 1) = m + 1 + n by omega, ← h2]
    refine for_cons (δ1 := [s0, s1, s2, s3, .val (.int ((10 ^ m : Nat) : Int)), .val (.int lo), s6]) ?_ ?_
    · simp only [ev_setix, sa_lst, sb_lst, ixN_j0, ixN_j1, ev_getR, sg_own, sg_bor, ev_putR, sp_own, sp_bor, so_some, ev_C, ev_V, sv_val, sv_own, sv_bor, ev_1, ev_2, ev_nil, ev_cons, ev_A, ev_If, ev_T, ev_Or, ev_And, ev_Not, ev_TOr, ev_TAnd, ev_TNot, ev_Tup, ev_Lst, ev_LstF, ev_Fz, ev_Str1C, ev_bind, ev_bindX, ev_out, ev_outX, ev_opt, ev_seq, so_nx, so_ret, so_exc, ev_skip, ev_ifS, ao_some, ev_asg, ev_gN, ev_nob, sn_no, sn_val, sn_own, ev_own, ev_par, ev_gTl0, ev_gTl1, ev_gT, ev_ret, ev_retF, ev_expr, ev_raise, ev_for, ev_iter, ev_iterA, ev_sl, ev_noP, ev_partC, dr_slot, sr_own, sr_bor, sr_ownD, dr_non, dr_bl, dr_int, dr_str, dr_tup, dr_lst, dr_ro, dr_dic, dr_raw, u_non, u_bl, u_int, u_str, u_tup, u_lst, u_ro, u_dic, u_raw, tr_bl, ixA_lst, ixA_ro, ixA_tup, ixA_str, gt_int, ge_int, lt_int, le_int, add_int, sub_int, int_int, eq_int, List.getElem?_cons_zero, List.getElem?_cons_succ, List.set_cons_zero, List.set_cons_succ, List.map_cons, List.map_nil, List.all_cons, List.all_nil, Bool.and_self, Bool.and_true, Bool.true_and, and_self, and_true, true_and, if_true, if_false, ite_true, ite_false, Option.bind_some, Bool.false_eq_true, decide_true, decide_false, Bool.not_true, Bool.not_false, hs]
    · simp only [ev_setix, sa_lst, sb_lst, ixN_j0, ixN_j1, ev_getR, sg_own, sg_bor, ev_putR, sp_own, sp_bor, so_some, ev_C, ev_V, sv_val, sv_own, sv_bor, ev_1, ev_2, ev_nil, ev_cons, ev_A, ev_If, ev_T, ev_Or, ev_And, ev_Not, ev_TOr, ev_TAnd, ev_TNot, ev_Tup, ev_Lst, ev_LstF, ev_Fz, ev_Str1C, ev_bind, ev_bindX, ev_out, ev_outX, ev_opt, ev_seq, so_nx, so_ret, so_exc, ev_skip, ev_ifS, ao_some, ev_asg, ev_gN, ev_nob, sn_no, sn_val, sn_own, ev_own, ev_par, ev_gTl0, ev_gTl1, ev_gT, ev_ret, ev_retF, ev_expr, ev_raise, ev_for, ev_iter, ev_iterA, ev_sl, ev_noP, ev_partC, dr_slot, sr_own, sr_bor, sr_ownD, dr_non, dr_bl, dr_int, dr_str, dr_tup, dr_lst, dr_ro, dr_dic, dr_raw, u_non, u_bl, u_int, u_str, u_tup, u_lst, u_ro, u_dic, u_raw, tr_bl, ixA_lst, ixA_ro, ixA_tup, ixA_str, gt_int, ge_int, lt_int, le_int, add_int, sub_int, int_int, eq_int, List.getElem?_cons_zero, List.getElem?_cons_succ, List.set_cons_zero, List.set_cons_succ, List.map_cons, List.map_nil, List.all_cons, List.all_nil, Bool.and_self, Bool.and_true, Bool.true_and, and_self, and_true, true_and, if_true, if_false, ite_true, ite_false, Option.bind_some, Bool.false_eq_true, decide_true, decide_false, Bool.not_true, Bool.not_false, e1]
theorem fnd_loop {s1 s2 s3 s4 : Slot} : ∀ (n m : Nat) (lo f a b : Int) (s5 : Slot), m + n ≤ 30 → slotN (some s5) = true → JarB b → 0 ≤ f → f < ((10 ^ m : Nat) : Int) → ∃ s5' f' a' b', slotN (some s5') = true ∧ JarB b' ∧ 0 ≤ f' ∧ f' < ((10 ^ (m + n) : Nat) : Int) ∧
    forGo (gN 5) (mAsg (m2 addD (m2 mulD (mV 6) (mC (.int 10))) (mCall 3 2 _law_drawn_D [] (mCons (mV 0) (mCons (mC (.int 10)) mNil)))) (gN 6)) (rngL lo n) [.bor (jar a b), s1, s2, s3, s4, s5, .val (.int f)] = .nx [.bor (jar a' b'), s1, s2, s3, s4, s5', .val (.int f')]
  | 0, m, lo, f, a, b, s5, h, hs, hb, hf, hf2 => ⟨s5, f, a, b, hs, hb, hf, hf2, rfl⟩
  | n + 1, m, lo, f, a, b, s5, h, hs, hb, hf, hf2 => by
    obtain ⟨r, a1, b1, e, r1, r2, hb1⟩ := dr (a := a) 10 hb (by decide) (by decide)
    have hp := p10 (m := m) (by omega)
    have hq : ((10 ^ (m + 1) : Nat) : Int) = ((10 ^ m : Nat) : Int) * 10 := by rw [Nat.pow_succ]; push_cast; rfl
    obtain ⟨s5', f', a', b', h1, h2, h3, h4, h5⟩ := fnd_loop (s1 := s1) (s2 := s2) (s3 := s3) (s4 := s4) n (m + 1) (lo + 1) (f * 10 + r) a1 b1 (.val (.int lo)) (by omega) rfl hb1 (by omega) (by omega)
    refine ⟨s5', f', a', b', h1, h2, h3, by rw [show m + (n + 1) = m + 1 + n by omega]; exact h4, ?_⟩
    rw [← h5]
    have e1 : mulD (.int f) (.int 10) = some (.int (f * 10)) := mul_int (by omega) (by omega) (by decide) (by decide)
    refine for_cons (δ1 := [.bor (jar a b), s1, s2, s3, s4, .val (.int lo), .val (.int f)]) ?_ ?_
    · simp only [ev_setix, sa_lst, sb_lst, ixN_j0, ixN_j1, ev_getR, sg_own, sg_bor, ev_putR, sp_own, sp_bor, so_some, ev_C, ev_V, sv_val, sv_own, sv_bor, ev_1, ev_2, ev_nil, ev_cons, ev_A, ev_If, ev_T, ev_Or, ev_And, ev_Not, ev_TOr, ev_TAnd, ev_TNot, ev_Tup, ev_Lst, ev_LstF, ev_Fz, ev_Str1C, ev_bind, ev_bindX, ev_out, ev_outX, ev_opt, ev_seq, so_nx, so_ret, so_exc, ev_skip, ev_ifS, ao_some, ev_asg, ev_gN, ev_nob, sn_no, sn_val, sn_own, ev_own, ev_par, ev_gTl0, ev_gTl1, ev_gT, ev_ret, ev_retF, ev_expr, ev_raise, ev_for, ev_iter, ev_iterA, ev_sl, ev_noP, ev_partC, dr_slot, sr_own, sr_bor, sr_ownD, dr_non, dr_bl, dr_int, dr_str, dr_tup, dr_lst, dr_ro, dr_dic, dr_raw, u_non, u_bl, u_int, u_str, u_tup, u_lst, u_ro, u_dic, u_raw, tr_bl, ixA_lst, ixA_ro, ixA_tup, ixA_str, gt_int, ge_int, lt_int, le_int, add_int, sub_int, int_int, eq_int, List.getElem?_cons_zero, List.getElem?_cons_succ, List.set_cons_zero, List.set_cons_succ, List.map_cons, List.map_nil, List.all_cons, List.all_nil, Bool.and_self, Bool.and_true, Bool.true_and, and_self, and_true, true_and, if_true, if_false, ite_true, ite_false, Option.bind_some, Bool.false_eq_true, decide_true, decide_false, Bool.not_true, Bool.not_false, hs]
    · have e2 := e [s1, s2, s3, s4, .val (.int lo), .val (.int f)] (mC (.int 10)) rfl
      simp only [ev_setix, sa_lst, sb_lst, ixN_j0, ixN_j1, ev_getR, sg_own, sg_bor, ev_putR, sp_own, sp_bor, so_some, ev_C, ev_V, sv_val, sv_own, sv_bor, ev_1, ev_2, ev_nil, ev_cons, ev_A, ev_If, ev_T, ev_Or, ev_And, ev_Not, ev_TOr, ev_TAnd, ev_TNot, ev_Tup, ev_Lst, ev_LstF, ev_Fz, ev_Str1C, ev_bind, ev_bindX, ev_out, ev_outX, ev_opt, ev_seq, so_nx, so_ret, so_exc, ev_skip, ev_ifS, ao_some, ev_asg, ev_gN, ev_nob, sn_no, sn_val, sn_own, ev_own, ev_par, ev_gTl0, ev_gTl1, ev_gT, ev_ret, ev_retF, ev_expr, ev_raise, ev_for, ev_iter, ev_iterA, ev_sl, ev_noP, ev_partC, dr_slot, sr_own, sr_bor, sr_ownD, dr_non, dr_bl, dr_int, dr_str, dr_tup, dr_lst, dr_ro, dr_dic, dr_raw, u_non, u_bl, u_int, u_str, u_tup, u_lst, u_ro, u_dic, u_raw, tr_bl, ixA_lst, ixA_ro, ixA_tup, ixA_str, gt_int, ge_int, lt_int, le_int, add_int, sub_int, int_int, eq_int, List.getElem?_cons_zero, List.getElem?_cons_succ, List.set_cons_zero, List.set_cons_succ, List.map_cons, List.map_nil, List.all_cons, List.all_nil, Bool.and_self, Bool.and_true, Bool.true_and, and_self, and_true, true_and, if_true, if_false, ite_true, ite_false, Option.bind_some, Bool.false_eq_true, decide_true, decide_false, Bool.not_true, Bool.not_false, e1, e2]
theorem dc {a b : Int} (n : Int) (hb : JarB b) (hn : 0 < n) (hn2 : n < 2 ^ 64) : ∃ r a' b', (∀ (rest : Dl), mCall 3 2 _law_drawn_D [] (mCons (mV 0) (mCons (mC (.int n)) mNil)) (.bor (jar a b) :: rest) = .ok (.int r) (.bor (jar a' b') :: rest)) ∧ 0 ≤ r ∧ r < n ∧ JarB b' := by
  obtain ⟨r, a', b', e, h⟩ := dr (a := a) n hb hn hn2
  exact ⟨r, a', b', fun rest => e rest _ rfl, h⟩
theorem ix2_0 {a b : D} : ixD (.lst [a, b]) (.int 0) = some a := rfl
theorem szL : (1 : Nat) ≤ sizeLine ∧ (2 : Nat) ≤ sizeLine ∧ (3 : Nat) ≤ sizeLine := by rw [sizeLine_eq]; decide
theorem lst2 {x y : D} (hx : unslot1 x = true) (hy : unslot1 y = true) : ([x, y].all unslot1 = true ∧ [x, y].length ≤ sizeLine) := ⟨by simp [hx, hy], szL.2.1⟩
def RetJ (P : D → Prop) (o : Out) : Prop := ∃ d a b rest, o = .ret (.val d) (.bor (jar a b) :: rest) ∧ JarB b ∧ unslot1 d = true ∧ P d
theorem retJ {P : D → Prop} {d : D} {a b : Int} {rest : Dl} (hb : JarB b) (u : unslot1 d = true) (h : P d) : RetJ P (.ret (.val d) (.bor (jar a b) :: rest)) := ⟨d, a, b, rest, rfl, hb, u, h⟩
def NumP (d : D) : Prop := ∃ i, d = .int i ∧ -1000000000000000000000000000000 < i ∧ i < 1000000000000000000000000000000
theorem number_body {a b : Int} (hb : JarB b) : RetJ NumP (_law_number_D [.bor (jar a b), .no, .no, .no, .no, .no, .no]) := by
  obtain ⟨k, a1, b1, e1, k1, k2, hb1⟩ := dc (a := a) 8 hb (by decide) (by decide)
  obtain ⟨mm, a2, b2, e2, mg1, mg2, hb2⟩ := dc (a := a1) 30 hb1 (by decide) (by decide)
  obtain ⟨bl, a3, b3, e3, l1, l2, hb3⟩ := dc (a := a2) 2 hb2 (by decide) (by decide)
  obtain ⟨s5, hs5, ep⟩ := pow_loop (s0 := .bor (jar a3 b3)) (s1 := .val (.int k)) (s2 := .val (.int (1 + mm))) (s3 := .val (.int bl)) (s6 := .no) (1 + mm - 1).toNat 0 0 .no (by omega) rfl
  rw [Nat.zero_add, show (((10 ^ 0 : Nat)) : Int) = 1 from rfl] at ep
  have hr : rng1 [.int (1 + mm - 1)] = some (rngL 0 (1 + mm - 1).toNat) := by
    show (if -(2 ^ 62) ≤ (1 + mm - 1) ∧ (1 + mm - 1) < 2 ^ 62 then _ else _) = _
    rw [if_pos (by omega)]
  have hp := p10 (m := (1 + mm - 1).toNat) (by omega)
  have hp29 : (10 ^ (1 + mm - 1).toNat : Nat) ≤ 10 ^ 29 := Nat.pow_le_pow_right (by decide) (by omega)
  have h29 : (10 ^ 29 : Nat) = 100000000000000000000000000000 := by decide
  rw [h29] at hp29
  generalize hP : ((10 ^ (1 + mm - 1).toNat : Nat) : Int) = P at ep
  have hP1 : 1 ≤ P ∧ P ≤ 100000000000000000000000000000 := by omega
  have fin : ∀ (f a4 b4 : Int) (x5 : Slot), JarB b4 → 0 ≤ f → f < 1000000000000000000000000000000 → RetJ NumP (mRet (mIf (mT (m2 eqD (mV 3) (mC (.int 0)))) (mV 6) (m2 subD (mC (.int 0)) (mV 6))) [.bor (jar a4 b4), .val (.int k), .val (.int (1 + mm)), .val (.int bl), .val (.int P), x5, .val (.int f)]) := by
    intro f a4 b4 x5 h4 f0 f1
    by_cases hz : bl = 0
    · simp only [ev_setix, sa_lst, sb_lst, ixN_j0, ixN_j1, ev_getR, sg_own, sg_bor, ev_putR, sp_own, sp_bor, so_some, ev_C, ev_V, sv_val, sv_own, sv_bor, ev_1, ev_2, ev_nil, ev_cons, ev_A, ev_If, ev_T, ev_Or, ev_And, ev_Not, ev_TOr, ev_TAnd, ev_TNot, ev_Tup, ev_Lst, ev_LstF, ev_Fz, ev_Str1C, ev_bind, ev_bindX, ev_out, ev_outX, ev_opt, ev_seq, so_nx, so_ret, so_exc, ev_skip, ev_ifS, ao_some, ev_asg, ev_gN, ev_nob, sn_no, sn_val, sn_own, ev_own, ev_par, ev_gTl0, ev_gTl1, ev_gT, ev_ret, ev_retF, ev_expr, ev_raise, ev_for, ev_iter, ev_iterA, ev_sl, ev_noP, ev_partC, dr_slot, sr_own, sr_bor, sr_ownD, dr_non, dr_bl, dr_int, dr_str, dr_tup, dr_lst, dr_ro, dr_dic, dr_raw, u_non, u_bl, u_int, u_str, u_tup, u_lst, u_ro, u_dic, u_raw, tr_bl, ixA_lst, ixA_ro, ixA_tup, ixA_str, gt_int, ge_int, lt_int, le_int, add_int, sub_int, int_int, eq_int, List.getElem?_cons_zero, List.getElem?_cons_succ, List.set_cons_zero, List.set_cons_succ, List.map_cons, List.map_nil, List.all_cons, List.all_nil, Bool.and_self, Bool.and_true, Bool.true_and, and_self, and_true, true_and, if_true, if_false, ite_true, ite_false, Option.bind_some, Bool.false_eq_true, decide_true, decide_false, Bool.not_true, Bool.not_false, hz]
      exact retJ h4 rfl ⟨f, rfl, by omega, f1⟩
    · simp only [ev_setix, sa_lst, sb_lst, ixN_j0, ixN_j1, ev_getR, sg_own, sg_bor, ev_putR, sp_own, sp_bor, so_some, ev_C, ev_V, sv_val, sv_own, sv_bor, ev_1, ev_2, ev_nil, ev_cons, ev_A, ev_If, ev_T, ev_Or, ev_And, ev_Not, ev_TOr, ev_TAnd, ev_TNot, ev_Tup, ev_Lst, ev_LstF, ev_Fz, ev_Str1C, ev_bind, ev_bindX, ev_out, ev_outX, ev_opt, ev_seq, so_nx, so_ret, so_exc, ev_skip, ev_ifS, ao_some, ev_asg, ev_gN, ev_nob, sn_no, sn_val, sn_own, ev_own, ev_par, ev_gTl0, ev_gTl1, ev_gT, ev_ret, ev_retF, ev_expr, ev_raise, ev_for, ev_iter, ev_iterA, ev_sl, ev_noP, ev_partC, dr_slot, sr_own, sr_bor, sr_ownD, dr_non, dr_bl, dr_int, dr_str, dr_tup, dr_lst, dr_ro, dr_dic, dr_raw, u_non, u_bl, u_int, u_str, u_tup, u_lst, u_ro, u_dic, u_raw, tr_bl, ixA_lst, ixA_ro, ixA_tup, ixA_str, gt_int, ge_int, lt_int, le_int, add_int, sub_int, int_int, eq_int, List.getElem?_cons_zero, List.getElem?_cons_succ, List.set_cons_zero, List.set_cons_succ, List.map_cons, List.map_nil, List.all_cons, List.all_nil, Bool.and_self, Bool.and_true, Bool.true_and, and_self, and_true, true_and, if_true, if_false, ite_true, ite_false, Option.bind_some, Bool.false_eq_true, decide_true, decide_false, Bool.not_true, Bool.not_false, hz]
      exact retJ h4 rfl ⟨0 - f, rfl, by omega, by omega⟩
  by_cases c1 : k < 2
  · obtain ⟨r, a4, b4, e4, r1, r2, hb4⟩ := dc (a := a3) 12 hb3 (by decide) (by decide)
    have := fin r a4 b4 s5 hb4 r1 (by omega)
    simp only [ev_setix, sa_lst, sb_lst, ixN_j0, ixN_j1, ev_getR, sg_own, sg_bor, ev_putR, sp_own, sp_bor, so_some, ev_C, ev_V, sv_val, sv_own, sv_bor, ev_1, ev_2, ev_nil, ev_cons, ev_A, ev_If, ev_T, ev_Or, ev_And, ev_Not, ev_TOr, ev_TAnd, ev_TNot, ev_Tup, ev_Lst, ev_LstF, ev_Fz, ev_Str1C, ev_bind, ev_bindX, ev_out, ev_outX, ev_opt, ev_seq, so_nx, so_ret, so_exc, ev_skip, ev_ifS, ao_some, ev_asg, ev_gN, ev_nob, sn_no, sn_val, sn_own, ev_own, ev_par, ev_gTl0, ev_gTl1, ev_gT, ev_ret, ev_retF, ev_expr, ev_raise, ev_for, ev_iter, ev_iterA, ev_sl, ev_noP, ev_partC, dr_slot, sr_own, sr_bor, sr_ownD, dr_non, dr_bl, dr_int, dr_str, dr_tup, dr_lst, dr_ro, dr_dic, dr_raw, u_non, u_bl, u_int, u_str, u_tup, u_lst, u_ro, u_dic, u_raw, tr_bl, ixA_lst, ixA_ro, ixA_tup, ixA_str, gt_int, ge_int, lt_int, le_int, add_int, sub_int, int_int, eq_int, List.getElem?_cons_zero, List.getElem?_cons_succ, List.set_cons_zero, List.set_cons_succ, List.map_cons, List.map_nil, List.all_cons, List.all_nil, Bool.and_self, Bool.and_true, Bool.true_and, and_self, and_true, true_and, if_true, if_false, ite_true, ite_false, Option.bind_some, Bool.false_eq_true, decide_true, decide_false, Bool.not_true, Bool.not_false] at this
    simp only [_law_number_D, ev_setix, sa_lst, sb_lst, ixN_j0, ixN_j1, ev_getR, sg_own, sg_bor, ev_putR, sp_own, sp_bor, so_some, ev_C, ev_V, sv_val, sv_own, sv_bor, ev_1, ev_2, ev_nil, ev_cons, ev_A, ev_If, ev_T, ev_Or, ev_And, ev_Not, ev_TOr, ev_TAnd, ev_TNot, ev_Tup, ev_Lst, ev_LstF, ev_Fz, ev_Str1C, ev_bind, ev_bindX, ev_out, ev_outX, ev_opt, ev_seq, so_nx, so_ret, so_exc, ev_skip, ev_ifS, ao_some, ev_asg, ev_gN, ev_nob, sn_no, sn_val, sn_own, ev_own, ev_par, ev_gTl0, ev_gTl1, ev_gT, ev_ret, ev_retF, ev_expr, ev_raise, ev_for, ev_iter, ev_iterA, ev_sl, ev_noP, ev_partC, dr_slot, sr_own, sr_bor, sr_ownD, dr_non, dr_bl, dr_int, dr_str, dr_tup, dr_lst, dr_ro, dr_dic, dr_raw, u_non, u_bl, u_int, u_str, u_tup, u_lst, u_ro, u_dic, u_raw, tr_bl, ixA_lst, ixA_ro, ixA_tup, ixA_str, gt_int, ge_int, lt_int, le_int, add_int, sub_int, int_int, eq_int, List.getElem?_cons_zero, List.getElem?_cons_succ, List.set_cons_zero, List.set_cons_succ, List.map_cons, List.map_nil, List.all_cons, List.all_nil, Bool.and_self, Bool.and_true, Bool.true_and, and_self, and_true, true_and, if_true, if_false, ite_true, ite_false, Option.bind_some, Bool.false_eq_true, decide_true, decide_false, Bool.not_true, Bool.not_false, e1, e2, e3, hr, ep, c1, e4]
    exact this
  · by_cases c2 : k < 5
    · have e5 : mulD (.int P) (.int 10) = some (.int (P * 10)) := mul_int (by omega) (by omega) (by decide) (by decide)
      have hl : (2 : Nat) ≤ sizeLine := szL.2.1
      have hm := mod_b (z := k) (j := 2) (by decide)
      have go : ∀ f, 0 ≤ f → f < 1000000000000000000000000000000 → ixD (.lst [.int P, .int (P * 10 - 1)]) (.int (k % 2)) = some (.int f) → RetJ NumP (_law_number_D [.bor (jar a b), .no, .no, .no, .no, .no, .no]) := by
        intro f f0 f1 hf
        have := fin f a3 b3 s5 hb3 f0 f1
        simp only [ev_setix, sa_lst, sb_lst, ixN_j0, ixN_j1, ev_getR, sg_own, sg_bor, ev_putR, sp_own, sp_bor, so_some, ev_C, ev_V, sv_val, sv_own, sv_bor, ev_1, ev_2, ev_nil, ev_cons, ev_A, ev_If, ev_T, ev_Or, ev_And, ev_Not, ev_TOr, ev_TAnd, ev_TNot, ev_Tup, ev_Lst, ev_LstF, ev_Fz, ev_Str1C, ev_bind, ev_bindX, ev_out, ev_outX, ev_opt, ev_seq, so_nx, so_ret, so_exc, ev_skip, ev_ifS, ao_some, ev_asg, ev_gN, ev_nob, sn_no, sn_val, sn_own, ev_own, ev_par, ev_gTl0, ev_gTl1, ev_gT, ev_ret, ev_retF, ev_expr, ev_raise, ev_for, ev_iter, ev_iterA, ev_sl, ev_noP, ev_partC, dr_slot, sr_own, sr_bor, sr_ownD, dr_non, dr_bl, dr_int, dr_str, dr_tup, dr_lst, dr_ro, dr_dic, dr_raw, u_non, u_bl, u_int, u_str, u_tup, u_lst, u_ro, u_dic, u_raw, tr_bl, ixA_lst, ixA_ro, ixA_tup, ixA_str, gt_int, ge_int, lt_int, le_int, add_int, sub_int, int_int, eq_int, List.getElem?_cons_zero, List.getElem?_cons_succ, List.set_cons_zero, List.set_cons_succ, List.map_cons, List.map_nil, List.all_cons, List.all_nil, Bool.and_self, Bool.and_true, Bool.true_and, and_self, and_true, true_and, if_true, if_false, ite_true, ite_false, Option.bind_some, Bool.false_eq_true, decide_true, decide_false, Bool.not_true, Bool.not_false] at this
        simp only [_law_number_D, ev_setix, sa_lst, sb_lst, ixN_j0, ixN_j1, ev_getR, sg_own, sg_bor, ev_putR, sp_own, sp_bor, so_some, ev_C, ev_V, sv_val, sv_own, sv_bor, ev_1, ev_2, ev_nil, ev_cons, ev_A, ev_If, ev_T, ev_Or, ev_And, ev_Not, ev_TOr, ev_TAnd, ev_TNot, ev_Tup, ev_Lst, ev_LstF, ev_Fz, ev_Str1C, ev_bind, ev_bindX, ev_out, ev_outX, ev_opt, ev_seq, so_nx, so_ret, so_exc, ev_skip, ev_ifS, ao_some, ev_asg, ev_gN, ev_nob, sn_no, sn_val, sn_own, ev_own, ev_par, ev_gTl0, ev_gTl1, ev_gT, ev_ret, ev_retF, ev_expr, ev_raise, ev_for, ev_iter, ev_iterA, ev_sl, ev_noP, ev_partC, dr_slot, sr_own, sr_bor, sr_ownD, dr_non, dr_bl, dr_int, dr_str, dr_tup, dr_lst, dr_ro, dr_dic, dr_raw, u_non, u_bl, u_int, u_str, u_tup, u_lst, u_ro, u_dic, u_raw, tr_bl, ixA_lst, ixA_ro, ixA_tup, ixA_str, gt_int, ge_int, lt_int, le_int, add_int, sub_int, int_int, eq_int, List.getElem?_cons_zero, List.getElem?_cons_succ, List.set_cons_zero, List.set_cons_succ, List.map_cons, List.map_nil, List.all_cons, List.all_nil, Bool.and_self, Bool.and_true, Bool.true_and, and_self, and_true, true_and, if_true, if_false, ite_true, ite_false, Option.bind_some, Bool.false_eq_true, decide_true, decide_false, Bool.not_true, Bool.not_false, e1, e2, e3, hr, ep, c1, c2, e5, List.length_cons, List.length_nil, Nat.reduceAdd, hl, mod_int (show (0 : Int) < 2 by decide), hf]
        exact this
      rcases (by omega : k % 2 = 0 ∨ k % 2 = 1) with q | q
      · exact go P (by omega) (by omega) (by rw [q]; rfl)
      · exact go (P * 10 - 1) (by omega) (by omega) (by rw [q]; rfl)
    · obtain ⟨r, a4, b4, e4, r1, r2, hb4⟩ := dc (a := a3) 9 hb3 (by decide) (by decide)
      obtain ⟨s5', f', a', b', h1, h2, h3, h4, h5⟩ := fnd_loop (s1 := .val (.int k)) (s2 := .val (.int (1 + mm))) (s3 := .val (.int bl)) (s4 := .val (.int P)) (1 + mm - 1).toNat 1 0 (1 + r) a4 b4 s5 (by omega) hs5 hb4 (by omega) (by show 1 + r < 10; omega)
      have h30 : (10 ^ (1 + (1 + mm - 1).toNat) : Nat) ≤ 10 ^ 30 := Nat.pow_le_pow_right (by decide) (by omega)
      have h30' : (10 ^ 30 : Nat) = 1000000000000000000000000000000 := by decide
      rw [h30'] at h30
      have := fin f' a' b' s5' h2 h3 (by omega)
      simp only [ev_setix, sa_lst, sb_lst, ixN_j0, ixN_j1, ev_getR, sg_own, sg_bor, ev_putR, sp_own, sp_bor, so_some, ev_C, ev_V, sv_val, sv_own, sv_bor, ev_1, ev_2, ev_nil, ev_cons, ev_A, ev_If, ev_T, ev_Or, ev_And, ev_Not, ev_TOr, ev_TAnd, ev_TNot, ev_Tup, ev_Lst, ev_LstF, ev_Fz, ev_Str1C, ev_bind, ev_bindX, ev_out, ev_outX, ev_opt, ev_seq, so_nx, so_ret, so_exc, ev_skip, ev_ifS, ao_some, ev_asg, ev_gN, ev_nob, sn_no, sn_val, sn_own, ev_own, ev_par, ev_gTl0, ev_gTl1, ev_gT, ev_ret, ev_retF, ev_expr, ev_raise, ev_for, ev_iter, ev_iterA, ev_sl, ev_noP, ev_partC, dr_slot, sr_own, sr_bor, sr_ownD, dr_non, dr_bl, dr_int, dr_str, dr_tup, dr_lst, dr_ro, dr_dic, dr_raw, u_non, u_bl, u_int, u_str, u_tup, u_lst, u_ro, u_dic, u_raw, tr_bl, ixA_lst, ixA_ro, ixA_tup, ixA_str, gt_int, ge_int, lt_int, le_int, add_int, sub_int, int_int, eq_int, List.getElem?_cons_zero, List.getElem?_cons_succ, List.set_cons_zero, List.set_cons_succ, List.map_cons, List.map_nil, List.all_cons, List.all_nil, Bool.and_self, Bool.and_true, Bool.true_and, and_self, and_true, true_and, if_true, if_false, ite_true, ite_false, Option.bind_some, Bool.false_eq_true, decide_true, decide_false, Bool.not_true, Bool.not_false] at this
      simp only [_law_number_D, ev_setix, sa_lst, sb_lst, ixN_j0, ixN_j1, ev_getR, sg_own, sg_bor, ev_putR, sp_own, sp_bor, so_some, ev_C, ev_V, sv_val, sv_own, sv_bor, ev_1, ev_2, ev_nil, ev_cons, ev_A, ev_If, ev_T, ev_Or, ev_And, ev_Not, ev_TOr, ev_TAnd, ev_TNot, ev_Tup, ev_Lst, ev_LstF, ev_Fz, ev_Str1C, ev_bind, ev_bindX, ev_out, ev_outX, ev_opt, ev_seq, so_nx, so_ret, so_exc, ev_skip, ev_ifS, ao_some, ev_asg, ev_gN, ev_nob, sn_no, sn_val, sn_own, ev_own, ev_par, ev_gTl0, ev_gTl1, ev_gT, ev_ret, ev_retF, ev_expr, ev_raise, ev_for, ev_iter, ev_iterA, ev_sl, ev_noP, ev_partC, dr_slot, sr_own, sr_bor, sr_ownD, dr_non, dr_bl, dr_int, dr_str, dr_tup, dr_lst, dr_ro, dr_dic, dr_raw, u_non, u_bl, u_int, u_str, u_tup, u_lst, u_ro, u_dic, u_raw, tr_bl, ixA_lst, ixA_ro, ixA_tup, ixA_str, gt_int, ge_int, lt_int, le_int, add_int, sub_int, int_int, eq_int, List.getElem?_cons_zero, List.getElem?_cons_succ, List.set_cons_zero, List.set_cons_succ, List.map_cons, List.map_nil, List.all_cons, List.all_nil, Bool.and_self, Bool.and_true, Bool.true_and, and_self, and_true, true_and, if_true, if_false, ite_true, ite_false, Option.bind_some, Bool.false_eq_true, decide_true, decide_false, Bool.not_true, Bool.not_false, e1, e2, e3, hr, ep, c1, c2, e4, h5]
      exact this
end DL
set_option Elab.async false
set_option linter.all false
set_option maxRecDepth 100000
set_option autoImplicit false
set_option maxHeartbeats 400000
namespace DL
open PySem PySem.Spec PyProof.Rows L2
abbrev sgA : List Nat := [32, 33, 34, 35, 36, 38, 39, 40, 41, 42, 43, 44, 45, 46, 47, 48, 49, 50, 51, 52, 53, 54, 55, 56, 57, 58, 59, 60, 61, 62, 63, 64, 65, 66, 67, 68, 69, 70, 71, 72, 73, 74, 75, 76, 77, 78, 79, 80, 81, 82, 83, 84, 85, 86, 87, 88, 89, 90, 91, 92, 93, 94, 95, 96]
abbrev sgB : List Nat := [97, 98, 99, 100, 101, 102, 103, 104, 105, 106, 107, 108, 109, 110, 111, 112, 113, 114, 115, 116, 117, 118, 119, 120, 121, 122, 123, 124, 125, 126]
abbrev sgL : List Nat := sgA ++ sgB
theorem str_A : (" !\"#$&'()*+,-./0123456789:;<=>?@ABCDEFGHIJKLMNOPQRSTUVWXYZ[\\]^_`" : PySem.Str) = S sgA := by decide +kernel
theorem str_B : ("abcdefghijklmnopqrstuvwxyz{|}~" : PySem.Str) = S sgB := by decide +kernel
theorem str_low : (" !\"a" : PySem.Str) = S [32, 33, 34, 97] := by decide +kernel
theorem str_no : ("" : PySem.Str) = S [] := by decide +kernel
theorem signs_call {δ : Dl} : mCall 1 0 _law_signs_D [] mNil δ = .ok (.str (S sgL)) δ := by
  refine call_val (δ' := [.val (.str (S sgA))]) rfl rfl rfl ?_ rfl
  show _law_signs_D [.no] = _
  simp only [_law_signs_D, ev_setix, sa_lst, sb_lst, ixN_j0, ixN_j1, ev_getR, sg_own, sg_bor, ev_putR, sp_own, sp_bor, so_some, ev_C, ev_V, sv_val, sv_own, sv_bor, ev_1, ev_2, ev_nil, ev_cons, ev_A, ev_If, ev_T, ev_Or, ev_And, ev_Not, ev_TOr, ev_TAnd, ev_TNot, ev_Tup, ev_Lst, ev_LstF, ev_Fz, ev_Str1C, ev_bind, ev_bindX, ev_out, ev_outX, ev_opt, ev_seq, so_nx, so_ret, so_exc, ev_skip, ev_ifS, ao_some, ev_asg, ev_gN, ev_nob, sn_no, sn_val, sn_own, ev_own, ev_par, ev_gTl0, ev_gTl1, ev_gT, ev_ret, ev_retF, ev_expr, ev_raise, ev_for, ev_iter, ev_iterA, ev_sl, ev_noP, ev_partC, dr_slot, sr_own, sr_bor, sr_ownD, dr_non, dr_bl, dr_int, dr_str, dr_tup, dr_lst, dr_ro, dr_dic, dr_raw, u_non, u_bl, u_int, u_str, u_tup, u_lst, u_ro, u_dic, u_raw, tr_bl, ixA_lst, ixA_ro, ixA_tup, ixA_str, gt_int, ge_int, lt_int, le_int, add_int, sub_int, int_int, eq_int, List.getElem?_cons_zero, List.getElem?_cons_succ, List.set_cons_zero, List.set_cons_succ, List.map_cons, List.map_nil, List.all_cons, List.all_nil, Bool.and_self, Bool.and_true, Bool.true_and, and_self, and_true, true_and, if_true, if_false, ite_true, ite_false, Option.bind_some, Bool.false_eq_true, decide_true, decide_false, Bool.not_true, Bool.not_false, str_A, str_B, add_S sgA sgB (by decide)]
theorem sg_in {r : Int} (h0 : 0 ≤ r) (h : r < 94) : ∃ k, ixD (.str (S sgL)) (.int r) = some (.str (S [k])) ∧ 32 ≤ k ∧ k ≤ 126 := by
  obtain ⟨k, e, q⟩ := ix_S (l := sgL) (r := r) (by decide) h0 (by show r < ((94 : Nat) : Int); omega)
  have : ∀ k ∈ sgL, 32 ≤ k ∧ k ≤ 126 := by decide
  exact ⟨k, q, this k (List.mem_of_getElem? e)⟩
theorem low_in {r : Int} (h0 : 0 ≤ r) (h : r < 4) : ∃ k, ixD (.str (S [32, 33, 34, 97])) (.int r) = some (.str (S [k])) ∧ 32 ≤ k ∧ k ≤ 126 := by
  obtain ⟨k, e, q⟩ := ix_S (l := [32, 33, 34, 97]) (r := r) (by decide) h0 (by show r < ((4 : Nat) : Int); omega)
  have : ∀ k ∈ [32, 33, 34, 97], 32 ≤ k ∧ k ≤ 126 := by decide
  exact ⟨k, q, this k (List.mem_of_getElem? e)⟩
def TextP (d : D) : Prop := ∃ l : List Nat, d = .str (S l) ∧ l.length ≤ 200 ∧ ∀ k ∈ l, 32 ≤ k ∧ k ≤ 126
theorem text_loop {el : ME} {s1 s2 s3 s4 s5 s6 s7 : Slot} (hel : ∀ (a b : Int) (x : D), JarB b → ∃ k a' b', el [.bor (jar a b), s1, s2, s3, s4, s5, s6, s7, .val x] = .ok (.str (S [k])) [.bor (jar a' b'), s1, s2, s3, s4, s5, s6, s7, .val x] ∧ JarB b' ∧ 32 ≤ k ∧ k ≤ 126) :
    ∀ (n : Nat) (lo a b : Int) (ks : List Nat), JarB b → n + ks.length ≤ 200 → (∀ k ∈ ks, 32 ≤ k ∧ k ≤ 126) → ∃ (ks' : List Nat) (a' b' : Int), JarB b' ∧ ks'.length ≤ 200 ∧ (∀ k ∈ ks', 32 ≤ k ∧ k ≤ 126) ∧ lcGo [8] (gN 8) mYes el (rngL lo n) ((ks.map fun k => [k]).map fun l => D.str (S l)) [.bor (jar a b), s1, s2, s3, s4, s5, s6, s7, .no] = .ok ((ks'.map fun k => [k]).map fun l => D.str (S l)) [.bor (jar a' b'), s1, s2, s3, s4, s5, s6, s7, .no]
  | 0, lo, a, b, ks, hb, hn, hk => ⟨ks, a, b, hb, by omega, hk, rfl⟩
  | n + 1, lo, a, b, ks, hb, hn, hk => by
    obtain ⟨k, a1, b1, e, hb1, k1⟩ := hel a b (.int lo) hb
    obtain ⟨ks', a', b', h1, h2, h3, h4⟩ := text_loop hel n (lo + 1) a1 b1 (ks ++ [k]) hb1 (by simp; omega) (by
      intro x hx
      rcases List.mem_append.mp hx with hx | hx
      · exact hk x hx
      · rw [List.mem_singleton.mp hx]; exact k1)
    refine ⟨ks', a', b', h1, h2, h3, ?_⟩
    rw [← h4]
    have := lc_cons (vs := [8]) (g := gN 8) (el := el) (x := .int lo) (y := .str (S [k])) (xs := rngL (lo + 1) n) (acc := (ks.map fun k => [k]).map fun l => D.str (S l)) (δ := [.bor (jar a b), s1, s2, s3, s4, s5, s6, s7, .no]) (δ1 := [.bor (jar a b), s1, s2, s3, s4, s5, s6, s7, .val (.int lo)]) rfl e rfl (by simp; omega) rfl rfl
    show lcGo [8] (gN 8) mYes el (.int lo :: rngL (lo + 1) n) _ _ = _
    rw [this]
    simp [wipeD]
theorem flat1 : ∀ ks : List Nat, (ks.map fun k => [k]).flatten = ks
  | [] => rfl
  | k :: ks => by rw [List.map_cons, List.flatten_cons, flat1 ks]; rfl
theorem free_bor {s1 s2 s3 s4 s5 s6 s7 s0 : Slot} : [8].all (freeS [s0, s1, s2, s3, s4, s5, s6, s7, .no]) = true := rfl
theorem text_join {el : ME} {s1 s2 s3 s4 s5 s6 s7 : Slot} {a b n : Int} (hb : JarB b) (h0 : 0 ≤ n) (hn : n ≤ 100) (src : ML) (a1 b1 : Int) (hb1 : JarB b1) (hs : src [.bor (jar a b), s1, s2, s3, s4, s5, s6, s7, .no] = .ok [.int n] [.bor (jar a1 b1), s1, s2, s3, s4, s5, s6, s7, .no])
    (hel : ∀ (a b : Int) (x : D), JarB b → ∃ k a' b', el [.bor (jar a b), s1, s2, s3, s4, s5, s6, s7, .val x] = .ok (.str (S [k])) [.bor (jar a' b'), s1, s2, s3, s4, s5, s6, s7, .val x] ∧ JarB b' ∧ 32 ≤ k ∧ k ≤ 126) :
    RetJ TextP (mRet (mStr1 joinD (mC (.str ("" : PySem.Str))) (mCons (mFz (mLc [8] (mIterA rng1 src) (gN 8) mYes el)) mNil)) [.bor (jar a b), s1, s2, s3, s4, s5, s6, s7, .no]) := by
  obtain ⟨ks, a', b', h1, h2, h3, h4⟩ := text_loop hel n.toNat 0 a1 b1 [] hb1 (by simp; omega) (by intro k hk; cases hk)
  have hr : rng1 [.int n] = some (rngL 0 n.toNat) := by
    show (if -(2 ^ 62) ≤ n ∧ n < 2 ^ 62 then _ else _) = _
    rw [if_pos (by omega)]
  have em : mLc [8] (mIterA rng1 src) (gN 8) mYes el [.bor (jar a b), s1, s2, s3, s4, s5, s6, s7, .no] = .ok (.lst ((ks.map fun k => [k]).map fun l => D.str (S l))) [.bor (jar a' b'), s1, s2, s3, s4, s5, s6, s7, .no] := by
    unfold mLc mIterA
    rw [hs]
    simp only [Er.bind, optE, hr]
    rw [if_pos free_bor]
    show ((lcGo [8] (gN 8) mYes el (rngL 0 n.toNat) [] [.bor (jar a1 b1), s1, s2, s3, s4, s5, s6, s7, .no]).bindN _) = _
    rw [show ([] : List D) = (([] : List Nat).map fun k => [k]).map fun l => D.str (S l) from rfl, h4]
    rfl
  have ej := join_nil (ks.map fun k => [k]) (by rw [flat1]; omega)
  rw [flat1] at ej
  simp only [ev_setix, sa_lst, sb_lst, ixN_j0, ixN_j1, ev_getR, sg_own, sg_bor, ev_putR, sp_own, sp_bor, so_some, ev_C, ev_V, sv_val, sv_own, sv_bor, ev_1, ev_2, ev_nil, ev_cons, ev_A, ev_If, ev_T, ev_Or, ev_And, ev_Not, ev_TOr, ev_TAnd, ev_TNot, ev_Tup, ev_Lst, ev_LstF, ev_Fz, ev_Str1C, ev_bind, ev_bindX, ev_out, ev_outX, ev_opt, ev_seq, so_nx, so_ret, so_exc, ev_skip, ev_ifS, ao_some, ev_asg, ev_gN, ev_nob, sn_no, sn_val, sn_own, ev_own, ev_par, ev_gTl0, ev_gTl1, ev_gT, ev_ret, ev_retF, ev_expr, ev_raise, ev_for, ev_iter, ev_iterA, ev_sl, ev_noP, ev_partC, dr_slot, sr_own, sr_bor, sr_ownD, dr_non, dr_bl, dr_int, dr_str, dr_tup, dr_lst, dr_ro, dr_dic, dr_raw, u_non, u_bl, u_int, u_str, u_tup, u_lst, u_ro, u_dic, u_raw, tr_bl, ixA_lst, ixA_ro, ixA_tup, ixA_str, gt_int, ge_int, lt_int, le_int, add_int, sub_int, int_int, eq_int, List.getElem?_cons_zero, List.getElem?_cons_succ, List.set_cons_zero, List.set_cons_succ, List.map_cons, List.map_nil, List.all_cons, List.all_nil, Bool.and_self, Bool.and_true, Bool.true_and, and_self, and_true, true_and, if_true, if_false, ite_true, ite_false, Option.bind_some, Bool.false_eq_true, decide_true, decide_false, Bool.not_true, Bool.not_false, em, str_no, frz, ej]
  exact retJ h1 rfl ⟨ks, rfl, h2, h3⟩
theorem text_body {a b : Int} (hb : JarB b) : RetJ TextP (_law_text_D [.bor (jar a b), .no, .no, .no, .no, .no, .no, .no, .no]) := by
  obtain ⟨k, a1, b1, e1, k1, k2, hb1⟩ := dc (a := a) 8 hb (by decide) (by decide)
  have hl : (3 : Nat) ≤ sizeLine := szL.2.2
  by_cases c0 : k = 0
  · obtain ⟨r, a2, b2, e2, r1, r2, hb2⟩ := dc (a := a1) 3 hb1 (by decide) (by decide)
    obtain ⟨x, a3, b3, e3, x1, x2, hb3⟩ := dc (a := a2) 94 hb2 (by decide) (by decide)
    obtain ⟨y, a4, b4, e4, y1, y2, hb4⟩ := dc (a := a3) 4 hb3 (by decide) (by decide)
    obtain ⟨z, a5, b5, e5, z1, z2, hb5⟩ := dr (a := a4) (200 - r) hb4 (by omega) (by omega)
    obtain ⟨c, ec, hc⟩ := sg_in x1 x2
    obtain ⟨d, ed, hd⟩ := low_in y1 y2
    have e5' := e5 [.val (.str (S sgL)), .val (.str (S [32, 33, 34, 97])), .val (.int k), .val (.int (200 - r)), .no, .no, .no, .no] (mV 4) rfl
    have f1 := mul_S c z (by omega) (by omega)
    have f2 := mul_S c (200 - r - z - 1) (by omega) (by omega)
    have f3 := add_S (List.replicate z.toNat c) [d] (by simp; omega)
    have f4 := add_S (List.replicate z.toNat c ++ [d]) (List.replicate (200 - r - z - 1).toNat c) (by simp; omega)
    rw [c0] at e5'
    simp only [_law_text_D, ev_setix, sa_lst, sb_lst, ixN_j0, ixN_j1, ev_getR, sg_own, sg_bor, ev_putR, sp_own, sp_bor, so_some, ev_C, ev_V, sv_val, sv_own, sv_bor, ev_1, ev_2, ev_nil, ev_cons, ev_A, ev_If, ev_T, ev_Or, ev_And, ev_Not, ev_TOr, ev_TAnd, ev_TNot, ev_Tup, ev_Lst, ev_LstF, ev_Fz, ev_Str1C, ev_bind, ev_bindX, ev_out, ev_outX, ev_opt, ev_seq, so_nx, so_ret, so_exc, ev_skip, ev_ifS, ao_some, ev_asg, ev_gN, ev_nob, sn_no, sn_val, sn_own, ev_own, ev_par, ev_gTl0, ev_gTl1, ev_gT, ev_ret, ev_retF, ev_expr, ev_raise, ev_for, ev_iter, ev_iterA, ev_sl, ev_noP, ev_partC, dr_slot, sr_own, sr_bor, sr_ownD, dr_non, dr_bl, dr_int, dr_str, dr_tup, dr_lst, dr_ro, dr_dic, dr_raw, u_non, u_bl, u_int, u_str, u_tup, u_lst, u_ro, u_dic, u_raw, tr_bl, ixA_lst, ixA_ro, ixA_tup, ixA_str, gt_int, ge_int, lt_int, le_int, add_int, sub_int, int_int, eq_int, List.getElem?_cons_zero, List.getElem?_cons_succ, List.set_cons_zero, List.set_cons_succ, List.map_cons, List.map_nil, List.all_cons, List.all_nil, Bool.and_self, Bool.and_true, Bool.true_and, and_self, and_true, true_and, if_true, if_false, ite_true, ite_false, Option.bind_some, Bool.false_eq_true, decide_true, decide_false, Bool.not_true, Bool.not_false, e1, c0, signs_call, str_low, List.length_cons, List.length_nil, Nat.reduceAdd, hl, e2, e3, e4, e5', ec, ed, f1, f2, f3, f4]
    refine retJ hb5 rfl ⟨_, rfl, by simp; omega, ?_⟩
    intro q hq
    rcases List.mem_append.mp hq with hq | hq
    · rcases List.mem_append.mp hq with hq | hq
      · rw [(List.mem_replicate.mp hq).2]; exact hc
      · rw [List.mem_singleton.mp hq]; exact hd
    · rw [(List.mem_replicate.mp hq).2]; exact hc
  · by_cases c5 : k < 5
    · obtain ⟨n, a2, b2, e2, n1, n2, hb2⟩ := dc (a := a1) 5 hb1 (by decide) (by decide)
      have := text_join (el := m2 ixA (mV 2) (mCall 3 2 _law_drawn_D [] (mCons (mV 0) (mCons (mC (.int 4)) mNil)))) (s1 := .val (.str (S sgL))) (s2 := .val (.str (S [32, 33, 34, 97]))) (s3 := .val (.int k)) (s4 := .no) (s5 := .no) (s6 := .no) (s7 := .no) (a := a1) hb1 n1 (by omega) (mCons (mCall 3 2 _law_drawn_D [] (mCons (mV 0) (mCons (mC (.int 5)) mNil))) mNil) a2 b2 hb2 (by simp only [ev_setix, sa_lst, sb_lst, ixN_j0, ixN_j1, ev_getR, sg_own, sg_bor, ev_putR, sp_own, sp_bor, so_some, ev_C, ev_V, sv_val, sv_own, sv_bor, ev_1, ev_2, ev_nil, ev_cons, ev_A, ev_If, ev_T, ev_Or, ev_And, ev_Not, ev_TOr, ev_TAnd, ev_TNot, ev_Tup, ev_Lst, ev_LstF, ev_Fz, ev_Str1C, ev_bind, ev_bindX, ev_out, ev_outX, ev_opt, ev_seq, so_nx, so_ret, so_exc, ev_skip, ev_ifS, ao_some, ev_asg, ev_gN, ev_nob, sn_no, sn_val, sn_own, ev_own, ev_par, ev_gTl0, ev_gTl1, ev_gT, ev_ret, ev_retF, ev_expr, ev_raise, ev_for, ev_iter, ev_iterA, ev_sl, ev_noP, ev_partC, dr_slot, sr_own, sr_bor, sr_ownD, dr_non, dr_bl, dr_int, dr_str, dr_tup, dr_lst, dr_ro, dr_dic, dr_raw, u_non, u_bl, u_int, u_str, u_tup, u_lst, u_ro, u_dic, u_raw, tr_bl, ixA_lst, ixA_ro, ixA_tup, ixA_str, gt_int, ge_int, lt_int, le_int, add_int, sub_int, int_int, eq_int, List.getElem?_cons_zero, List.getElem?_cons_succ, List.set_cons_zero, List.set_cons_succ, List.map_cons, List.map_nil, List.all_cons, List.all_nil, Bool.and_self, Bool.and_true, Bool.true_and, and_self, and_true, true_and, if_true, if_false, ite_true, ite_false, Option.bind_some, Bool.false_eq_true, decide_true, decide_false, Bool.not_true, Bool.not_false, e2]) (by
        intro a b x hb
        obtain ⟨y, a4, b4, e4, y1, y2, hb4⟩ := dc (a := a) 4 hb (by decide) (by decide)
        obtain ⟨d, ed, hd⟩ := low_in y1 y2
        exact ⟨d, a4, b4, by simp only [ev_setix, sa_lst, sb_lst, ixN_j0, ixN_j1, ev_getR, sg_own, sg_bor, ev_putR, sp_own, sp_bor, so_some, ev_C, ev_V, sv_val, sv_own, sv_bor, ev_1, ev_2, ev_nil, ev_cons, ev_A, ev_If, ev_T, ev_Or, ev_And, ev_Not, ev_TOr, ev_TAnd, ev_TNot, ev_Tup, ev_Lst, ev_LstF, ev_Fz, ev_Str1C, ev_bind, ev_bindX, ev_out, ev_outX, ev_opt, ev_seq, so_nx, so_ret, so_exc, ev_skip, ev_ifS, ao_some, ev_asg, ev_gN, ev_nob, sn_no, sn_val, sn_own, ev_own, ev_par, ev_gTl0, ev_gTl1, ev_gT, ev_ret, ev_retF, ev_expr, ev_raise, ev_for, ev_iter, ev_iterA, ev_sl, ev_noP, ev_partC, dr_slot, sr_own, sr_bor, sr_ownD, dr_non, dr_bl, dr_int, dr_str, dr_tup, dr_lst, dr_ro, dr_dic, dr_raw, u_non, u_bl, u_int, u_str, u_tup, u_lst, u_ro, u_dic, u_raw, tr_bl, ixA_lst, ixA_ro, ixA_tup, ixA_str, gt_int, ge_int, lt_int, le_int, add_int, sub_int, int_int, eq_int, List.getElem?_cons_zero, List.getElem?_cons_succ, List.set_cons_zero, List.set_cons_succ, List.map_cons, List.map_nil, List.all_cons, List.all_nil, Bool.and_self, Bool.and_true, Bool.true_and, and_self, and_true, true_and, if_true, if_false, ite_true, ite_false, Option.bind_some, Bool.false_eq_true, decide_true, decide_false, Bool.not_true, Bool.not_false, e4, ed], hb4, hd⟩)
      obtain ⟨d, a', b', rest, e, q1, q2, q3⟩ := this
      simp only [ev_setix, sa_lst, sb_lst, ixN_j0, ixN_j1, ev_getR, sg_own, sg_bor, ev_putR, sp_own, sp_bor, so_some, ev_C, ev_V, sv_val, sv_own, sv_bor, ev_1, ev_2, ev_nil, ev_cons, ev_A, ev_If, ev_T, ev_Or, ev_And, ev_Not, ev_TOr, ev_TAnd, ev_TNot, ev_Tup, ev_Lst, ev_LstF, ev_Fz, ev_Str1C, ev_bind, ev_bindX, ev_out, ev_outX, ev_opt, ev_seq, so_nx, so_ret, so_exc, ev_skip, ev_ifS, ao_some, ev_asg, ev_gN, ev_nob, sn_no, sn_val, sn_own, ev_own, ev_par, ev_gTl0, ev_gTl1, ev_gT, ev_ret, ev_retF, ev_expr, ev_raise, ev_for, ev_iter, ev_iterA, ev_sl, ev_noP, ev_partC, dr_slot, sr_own, sr_bor, sr_ownD, dr_non, dr_bl, dr_int, dr_str, dr_tup, dr_lst, dr_ro, dr_dic, dr_raw, u_non, u_bl, u_int, u_str, u_tup, u_lst, u_ro, u_dic, u_raw, tr_bl, ixA_lst, ixA_ro, ixA_tup, ixA_str, gt_int, ge_int, lt_int, le_int, add_int, sub_int, int_int, eq_int, List.getElem?_cons_zero, List.getElem?_cons_succ, List.set_cons_zero, List.set_cons_succ, List.map_cons, List.map_nil, List.all_cons, List.all_nil, Bool.and_self, Bool.and_true, Bool.true_and, and_self, and_true, true_and, if_true, if_false, ite_true, ite_false, Option.bind_some, Bool.false_eq_true, decide_true, decide_false, Bool.not_true, Bool.not_false] at e
      simp only [_law_text_D, ev_setix, sa_lst, sb_lst, ixN_j0, ixN_j1, ev_getR, sg_own, sg_bor, ev_putR, sp_own, sp_bor, so_some, ev_C, ev_V, sv_val, sv_own, sv_bor, ev_1, ev_2, ev_nil, ev_cons, ev_A, ev_If, ev_T, ev_Or, ev_And, ev_Not, ev_TOr, ev_TAnd, ev_TNot, ev_Tup, ev_Lst, ev_LstF, ev_Fz, ev_Str1C, ev_bind, ev_bindX, ev_out, ev_outX, ev_opt, ev_seq, so_nx, so_ret, so_exc, ev_skip, ev_ifS, ao_some, ev_asg, ev_gN, ev_nob, sn_no, sn_val, sn_own, ev_own, ev_par, ev_gTl0, ev_gTl1, ev_gT, ev_ret, ev_retF, ev_expr, ev_raise, ev_for, ev_iter, ev_iterA, ev_sl, ev_noP, ev_partC, dr_slot, sr_own, sr_bor, sr_ownD, dr_non, dr_bl, dr_int, dr_str, dr_tup, dr_lst, dr_ro, dr_dic, dr_raw, u_non, u_bl, u_int, u_str, u_tup, u_lst, u_ro, u_dic, u_raw, tr_bl, ixA_lst, ixA_ro, ixA_tup, ixA_str, gt_int, ge_int, lt_int, le_int, add_int, sub_int, int_int, eq_int, List.getElem?_cons_zero, List.getElem?_cons_succ, List.set_cons_zero, List.set_cons_succ, List.map_cons, List.map_nil, List.all_cons, List.all_nil, Bool.and_self, Bool.and_true, Bool.true_and, and_self, and_true, true_and, if_true, if_false, ite_true, ite_false, Option.bind_some, Bool.false_eq_true, decide_true, decide_false, Bool.not_true, Bool.not_false, e1, c0, c5, signs_call, str_low, List.length_cons, List.length_nil, Nat.reduceAdd, hl]
      rw [e]
      exact ⟨d, a', b', rest, rfl, q1, q2, q3⟩
    · obtain ⟨n, a2, b2, e2, n1, n2, hb2⟩ := dc (a := a1) 8 hb1 (by decide) (by decide)
      have := text_join (el := m2 ixA (mV 1) (mCall 3 2 _law_drawn_D [] (mCons (mV 0) (mCons (mC (.int 94)) mNil)))) (s1 := .val (.str (S sgL))) (s2 := .val (.str (S [32, 33, 34, 97]))) (s3 := .val (.int k)) (s4 := .no) (s5 := .no) (s6 := .no) (s7 := .no) (a := a1) hb1 n1 (by omega) (mCons (mCall 3 2 _law_drawn_D [] (mCons (mV 0) (mCons (mC (.int 8)) mNil))) mNil) a2 b2 hb2 (by simp only [ev_setix, sa_lst, sb_lst, ixN_j0, ixN_j1, ev_getR, sg_own, sg_bor, ev_putR, sp_own, sp_bor, so_some, ev_C, ev_V, sv_val, sv_own, sv_bor, ev_1, ev_2, ev_nil, ev_cons, ev_A, ev_If, ev_T, ev_Or, ev_And, ev_Not, ev_TOr, ev_TAnd, ev_TNot, ev_Tup, ev_Lst, ev_LstF, ev_Fz, ev_Str1C, ev_bind, ev_bindX, ev_out, ev_outX, ev_opt, ev_seq, so_nx, so_ret, so_exc, ev_skip, ev_ifS, ao_some, ev_asg, ev_gN, ev_nob, sn_no, sn_val, sn_own, ev_own, ev_par, ev_gTl0, ev_gTl1, ev_gT, ev_ret, ev_retF, ev_expr, ev_raise, ev_for, ev_iter, ev_iterA, ev_sl, ev_noP, ev_partC, dr_slot, sr_own, sr_bor, sr_ownD, dr_non, dr_bl, dr_int, dr_str, dr_tup, dr_lst, dr_ro, dr_dic, dr_raw, u_non, u_bl, u_int, u_str, u_tup, u_lst, u_ro, u_dic, u_raw, tr_bl, ixA_lst, ixA_ro, ixA_tup, ixA_str, gt_int, ge_int, lt_int, le_int, add_int, sub_int, int_int, eq_int, List.getElem?_cons_zero, List.getElem?_cons_succ, List.set_cons_zero, List.set_cons_succ, List.map_cons, List.map_nil, List.all_cons, List.all_nil, Bool.and_self, Bool.and_true, Bool.true_and, and_self, and_true, true_and, if_true, if_false, ite_true, ite_false, Option.bind_some, Bool.false_eq_true, decide_true, decide_false, Bool.not_true, Bool.not_false, e2]) (by
        intro a b x hb
        obtain ⟨y, a4, b4, e4, y1, y2, hb4⟩ := dc (a := a) 94 hb (by decide) (by decide)
        obtain ⟨d, ed, hd⟩ := sg_in y1 y2
        exact ⟨d, a4, b4, by simp only [ev_setix, sa_lst, sb_lst, ixN_j0, ixN_j1, ev_getR, sg_own, sg_bor, ev_putR, sp_own, sp_bor, so_some, ev_C, ev_V, sv_val, sv_own, sv_bor, ev_1, ev_2, ev_nil, ev_cons, ev_A, ev_If, ev_T, ev_Or, ev_And, ev_Not, ev_TOr, ev_TAnd, ev_TNot, ev_Tup, ev_Lst, ev_LstF, ev_Fz, ev_Str1C, ev_bind, ev_bindX, ev_out, ev_outX, ev_opt, ev_seq, so_nx, so_ret, so_exc, ev_skip, ev_ifS, ao_some, ev_asg, ev_gN, ev_nob, sn_no, sn_val, sn_own, ev_own, ev_par, ev_gTl0, ev_gTl1, ev_gT, ev_ret, ev_retF, ev_expr, ev_raise, ev_for, ev_iter, ev_iterA, ev_sl, ev_noP, ev_partC, dr_slot, sr_own, sr_bor, sr_ownD, dr_non, dr_bl, dr_int, dr_str, dr_tup, dr_lst, dr_ro, dr_dic, dr_raw, u_non, u_bl, u_int, u_str, u_tup, u_lst, u_ro, u_dic, u_raw, tr_bl, ixA_lst, ixA_ro, ixA_tup, ixA_str, gt_int, ge_int, lt_int, le_int, add_int, sub_int, int_int, eq_int, List.getElem?_cons_zero, List.getElem?_cons_succ, List.set_cons_zero, List.set_cons_succ, List.map_cons, List.map_nil, List.all_cons, List.all_nil, Bool.and_self, Bool.and_true, Bool.true_and, and_self, and_true, true_and, if_true, if_false, ite_true, ite_false, Option.bind_some, Bool.false_eq_true, decide_true, decide_false, Bool.not_true, Bool.not_false, e4, ed], hb4, hd⟩)
      simp only [_law_text_D, ev_setix, sa_lst, sb_lst, ixN_j0, ixN_j1, ev_getR, sg_own, sg_bor, ev_putR, sp_own, sp_bor, so_some, ev_C, ev_V, sv_val, sv_own, sv_bor, ev_1, ev_2, ev_nil, ev_cons, ev_A, ev_If, ev_T, ev_Or, ev_And, ev_Not, ev_TOr, ev_TAnd, ev_TNot, ev_Tup, ev_Lst, ev_LstF, ev_Fz, ev_Str1C, ev_bind, ev_bindX, ev_out, ev_outX, ev_opt, ev_seq, so_nx, so_ret, so_exc, ev_skip, ev_ifS, ao_some, ev_asg, ev_gN, ev_nob, sn_no, sn_val, sn_own, ev_own, ev_par, ev_gTl0, ev_gTl1, ev_gT, ev_ret, ev_retF, ev_expr, ev_raise, ev_for, ev_iter, ev_iterA, ev_sl, ev_noP, ev_partC, dr_slot, sr_own, sr_bor, sr_ownD, dr_non, dr_bl, dr_int, dr_str, dr_tup, dr_lst, dr_ro, dr_dic, dr_raw, u_non, u_bl, u_int, u_str, u_tup, u_lst, u_ro, u_dic, u_raw, tr_bl, ixA_lst, ixA_ro, ixA_tup, ixA_str, gt_int, ge_int, lt_int, le_int, add_int, sub_int, int_int, eq_int, List.getElem?_cons_zero, List.getElem?_cons_succ, List.set_cons_zero, List.set_cons_succ, List.map_cons, List.map_nil, List.all_cons, List.all_nil, Bool.and_self, Bool.and_true, Bool.true_and, and_self, and_true, true_and, if_true, if_false, ite_true, ite_false, Option.bind_some, Bool.false_eq_true, decide_true, decide_false, Bool.not_true, Bool.not_false, e1, c0, c5, signs_call, str_low, List.length_cons, List.length_nil, Nat.reduceAdd, hl] at this ⊢
      exact this
end DL
set_option Elab.async false
set_option linter.all false
set_option maxRecDepth 100000
set_option autoImplicit false
set_option maxHeartbeats 400000
namespace DL
open PySem PySem.Spec PyProof.Rows L2
def ValP (d : D) : Prop := d = .non ∨ (∃ k, d = .bl k) ∨ NumP d ∨ TextP d
theorem call_retJ {P : D → Prop} {m : Nat} {body : MS} {a b : Int} (h : RetJ P (body (.bor (jar a b) :: List.replicate (m - 1) Slot.no))) : ∃ d a' b', (∀ rest : Dl, mCall m 1 body [] (mCons (mV 0) mNil) (.bor (jar a b) :: rest) = .ok d (.bor (jar a' b') :: rest)) ∧ JarB b' ∧ unslot1 d = true ∧ P d := by
  obtain ⟨d, a', b', r, e, h1, h2, h3⟩ := h
  exact ⟨d, a', b', fun rest => call_jar (mk := Slot.bor) (np := 1) (ds := []) (.inr rfl) rfl rfl rfl rfl e h2, h1, h2, h3⟩
theorem value_body {a b : Int} (hb : JarB b) : RetJ ValP (_law_value_D [.bor (jar a b), .no]) := by
  obtain ⟨k, a1, b1, e1, k1, k2, hb1⟩ := dc (a := a) 9 hb (by decide) (by decide)
  have hl : (3 : Nat) ≤ sizeLine := szL.2.2
  by_cases c1 : k < 3
  · have go : ∀ d, unslot1 d = true → ValP d → ixD (.lst [.non, .bl false, .bl true]) (.int k) = some d → RetJ ValP (_law_value_D [.bor (jar a b), .no]) := by
      intro d u hd hf
      simp only [_law_value_D, ev_setix, sa_lst, sb_lst, ixN_j0, ixN_j1, ev_getR, sg_own, sg_bor, ev_putR, sp_own, sp_bor, so_some, ev_C, ev_V, sv_val, sv_own, sv_bor, ev_1, ev_2, ev_nil, ev_cons, ev_A, ev_If, ev_T, ev_Or, ev_And, ev_Not, ev_TOr, ev_TAnd, ev_TNot, ev_Tup, ev_Lst, ev_LstF, ev_Fz, ev_Str1C, ev_bind, ev_bindX, ev_out, ev_outX, ev_opt, ev_seq, so_nx, so_ret, so_exc, ev_skip, ev_ifS, ao_some, ev_asg, ev_gN, ev_nob, sn_no, sn_val, sn_own, ev_own, ev_par, ev_gTl0, ev_gTl1, ev_gT, ev_ret, ev_retF, ev_expr, ev_raise, ev_for, ev_iter, ev_iterA, ev_sl, ev_noP, ev_partC, dr_slot, sr_own, sr_bor, sr_ownD, dr_non, dr_bl, dr_int, dr_str, dr_tup, dr_lst, dr_ro, dr_dic, dr_raw, u_non, u_bl, u_int, u_str, u_tup, u_lst, u_ro, u_dic, u_raw, tr_bl, ixA_lst, ixA_ro, ixA_tup, ixA_str, gt_int, ge_int, lt_int, le_int, add_int, sub_int, int_int, eq_int, List.getElem?_cons_zero, List.getElem?_cons_succ, List.set_cons_zero, List.set_cons_succ, List.map_cons, List.map_nil, List.all_cons, List.all_nil, Bool.and_self, Bool.and_true, Bool.true_and, and_self, and_true, true_and, if_true, if_false, ite_true, ite_false, Option.bind_some, Bool.false_eq_true, decide_true, decide_false, Bool.not_true, Bool.not_false, e1, c1, List.length_cons, List.length_nil, Nat.reduceAdd, hl, hf, u]
      exact retJ hb1 u hd
    rcases (by omega : k = 0 ∨ k = 1 ∨ k = 2) with q | q | q
    · exact go .non rfl (.inl rfl) (by rw [q]; rfl)
    · exact go (.bl false) rfl (.inr (.inl ⟨_, rfl⟩)) (by rw [q]; rfl)
    · exact go (.bl true) rfl (.inr (.inl ⟨_, rfl⟩)) (by rw [q]; rfl)
  · by_cases c2 : k < 6
    · obtain ⟨d, a2, b2, e2, h1, h2, h3⟩ := call_retJ (m := 7) (number_body (a := a1) hb1)
      simp only [_law_value_D, ev_setix, sa_lst, sb_lst, ixN_j0, ixN_j1, ev_getR, sg_own, sg_bor, ev_putR, sp_own, sp_bor, so_some, ev_C, ev_V, sv_val, sv_own, sv_bor, ev_1, ev_2, ev_nil, ev_cons, ev_A, ev_If, ev_T, ev_Or, ev_And, ev_Not, ev_TOr, ev_TAnd, ev_TNot, ev_Tup, ev_Lst, ev_LstF, ev_Fz, ev_Str1C, ev_bind, ev_bindX, ev_out, ev_outX, ev_opt, ev_seq, so_nx, so_ret, so_exc, ev_skip, ev_ifS, ao_some, ev_asg, ev_gN, ev_nob, sn_no, sn_val, sn_own, ev_own, ev_par, ev_gTl0, ev_gTl1, ev_gT, ev_ret, ev_retF, ev_expr, ev_raise, ev_for, ev_iter, ev_iterA, ev_sl, ev_noP, ev_partC, dr_slot, sr_own, sr_bor, sr_ownD, dr_non, dr_bl, dr_int, dr_str, dr_tup, dr_lst, dr_ro, dr_dic, dr_raw, u_non, u_bl, u_int, u_str, u_tup, u_lst, u_ro, u_dic, u_raw, tr_bl, ixA_lst, ixA_ro, ixA_tup, ixA_str, gt_int, ge_int, lt_int, le_int, add_int, sub_int, int_int, eq_int, List.getElem?_cons_zero, List.getElem?_cons_succ, List.set_cons_zero, List.set_cons_succ, List.map_cons, List.map_nil, List.all_cons, List.all_nil, Bool.and_self, Bool.and_true, Bool.true_and, and_self, and_true, true_and, if_true, if_false, ite_true, ite_false, Option.bind_some, Bool.false_eq_true, decide_true, decide_false, Bool.not_true, Bool.not_false, e1, c1, c2, e2, h2]
      exact retJ h1 h2 (.inr (.inr (.inl h3)))
    · obtain ⟨d, a2, b2, e2, h1, h2, h3⟩ := call_retJ (m := 9) (text_body (a := a1) hb1)
      simp only [_law_value_D, ev_setix, sa_lst, sb_lst, ixN_j0, ixN_j1, ev_getR, sg_own, sg_bor, ev_putR, sp_own, sp_bor, so_some, ev_C, ev_V, sv_val, sv_own, sv_bor, ev_1, ev_2, ev_nil, ev_cons, ev_A, ev_If, ev_T, ev_Or, ev_And, ev_Not, ev_TOr, ev_TAnd, ev_TNot, ev_Tup, ev_Lst, ev_LstF, ev_Fz, ev_Str1C, ev_bind, ev_bindX, ev_out, ev_outX, ev_opt, ev_seq, so_nx, so_ret, so_exc, ev_skip, ev_ifS, ao_some, ev_asg, ev_gN, ev_nob, sn_no, sn_val, sn_own, ev_own, ev_par, ev_gTl0, ev_gTl1, ev_gT, ev_ret, ev_retF, ev_expr, ev_raise, ev_for, ev_iter, ev_iterA, ev_sl, ev_noP, ev_partC, dr_slot, sr_own, sr_bor, sr_ownD, dr_non, dr_bl, dr_int, dr_str, dr_tup, dr_lst, dr_ro, dr_dic, dr_raw, u_non, u_bl, u_int, u_str, u_tup, u_lst, u_ro, u_dic, u_raw, tr_bl, ixA_lst, ixA_ro, ixA_tup, ixA_str, gt_int, ge_int, lt_int, le_int, add_int, sub_int, int_int, eq_int, List.getElem?_cons_zero, List.getElem?_cons_succ, List.set_cons_zero, List.set_cons_succ, List.map_cons, List.map_nil, List.all_cons, List.all_nil, Bool.and_self, Bool.and_true, Bool.true_and, and_self, and_true, true_and, if_true, if_false, ite_true, ite_false, Option.bind_some, Bool.false_eq_true, decide_true, decide_false, Bool.not_true, Bool.not_false, e1, c1, c2, e2, h2]
      exact retJ h1 h2 (.inr (.inr (.inr h3)))
/-! ### the codes -/
def tk (k : Nat) : List Nat := if k = 32 then [33, 97] else if k = 33 then [33, 98] else [k]
theorem tk_len (k : Nat) : (tk k).length ≤ 2 := by
  unfold tk
  split
  · decide
  · split <;> simp
theorem tks_len : ∀ l : List Nat, (l.map tk).flatten.length ≤ 2 * l.length
  | [] => by simp
  | k :: l => by
    have := tks_len l
    have := tk_len k
    simp only [List.map_cons, List.flatten_cons, List.length_append, List.length_cons]
    omega
abbrev tkK : List (Key × D) := [(.inr (S [32]), .str (S [33, 97])), (.inr (S [33]), .str (S [33, 98]))]
theorem tk_get (k : Nat) : (getK (.inr (S [k])) tkK).getD (.str (S [k])) = .str (S (tk k)) := by
  unfold tkK tk
  by_cases h : k = 32
  · subst h; rfl
  · by_cases h2 : k = 33
    · subst h2; rfl
    · have n1 : ¬ ((.inr (S [32]) : Key) = .inr (S [k])) := fun q => h (by have := S_inj (Sum.inr.inj q); simpa using this.symm)
      have n2 : ¬ ((.inr (S [33]) : Key) = .inr (S [k])) := fun q => h2 (by have := S_inj (Sum.inr.inj q); simpa using this.symm)
      unfold getK
      rw [if_neg n1]
      unfold getK
      rw [if_neg n2]
      unfold getK
      rw [if_neg h, if_neg h2]
      rfl
theorem str_sp : (" " : PySem.Str) = S [32] := by decide +kernel
theorem str_ex : ("!" : PySem.Str) = S [33] := by decide +kernel
theorem str_a : ("a" : PySem.Str) = S [97] := by decide +kernel
theorem str_b : ("b" : PySem.Str) = S [98] := by decide +kernel
theorem str_ea : ("!a" : PySem.Str) = S [33, 97] := by decide +kernel
theorem str_eb : ("!b" : PySem.Str) = S [33, 98] := by decide +kernel
theorem str_t : ("t" : PySem.Str) = S [116] := by decide +kernel
theorem get2_dic {md mk mx : ME} {δ δ1 δ2 δ3 : Dl} {kvs : List (Key × D)} {z : Str} {x : D} (h1 : md δ = .ok (.dic kvs) δ1) (h2 : mk δ1 = .ok (.str z) δ2) (h3 : mx δ2 = .ok x δ3) (u : unslot1 x = true) : mGet2 md mk mx δ = .ok ((getK (.inr z) kvs).getD x) δ3 := by
  unfold mGet2
  rw [h1]
  simp only [Er.bind, dr_dic, h2, h3, keyD, u, if_true]
abbrev dispA : ME := mFz (mDisp [((mC (.str (" " : PySem.Str))), (m2 addD (mC (.str ("!" : PySem.Str))) (mC (.str ("a" : PySem.Str))))), ((mC (.str ("!" : PySem.Str))), (m2 addD (mC (.str ("!" : PySem.Str))) (mC (.str ("b" : PySem.Str)))))])
abbrev dispB : ME := mFz (mDisp [((mC (.str (" " : PySem.Str))), (mC (.str ("!a" : PySem.Str)))), ((mC (.str ("!" : PySem.Str))), (mC (.str ("!b" : PySem.Str))))])
theorem merge_tk : mergeD [] tkK = tkK := rfl
theorem dispA_ok {δ : Dl} : dispA δ = .ok (.dic tkK) δ := by
  unfold dispA mFz mDisp
  simp only [mPairs, Er.bindN, ev_setix, sa_lst, sb_lst, ixN_j0, ixN_j1, ev_getR, sg_own, sg_bor, ev_putR, sp_own, sp_bor, so_some, ev_C, ev_V, sv_val, sv_own, sv_bor, ev_1, ev_2, ev_nil, ev_cons, ev_A, ev_If, ev_T, ev_Or, ev_And, ev_Not, ev_TOr, ev_TAnd, ev_TNot, ev_Tup, ev_Lst, ev_LstF, ev_Fz, ev_Str1C, ev_bind, ev_bindX, ev_out, ev_outX, ev_opt, ev_seq, so_nx, so_ret, so_exc, ev_skip, ev_ifS, ao_some, ev_asg, ev_gN, ev_nob, sn_no, sn_val, sn_own, ev_own, ev_par, ev_gTl0, ev_gTl1, ev_gT, ev_ret, ev_retF, ev_expr, ev_raise, ev_for, ev_iter, ev_iterA, ev_sl, ev_noP, ev_partC, dr_slot, sr_own, sr_bor, sr_ownD, dr_non, dr_bl, dr_int, dr_str, dr_tup, dr_lst, dr_ro, dr_dic, dr_raw, u_non, u_bl, u_int, u_str, u_tup, u_lst, u_ro, u_dic, u_raw, tr_bl, ixA_lst, ixA_ro, ixA_tup, ixA_str, gt_int, ge_int, lt_int, le_int, add_int, sub_int, int_int, eq_int, List.getElem?_cons_zero, List.getElem?_cons_succ, List.set_cons_zero, List.set_cons_succ, List.map_cons, List.map_nil, List.all_cons, List.all_nil, Bool.and_self, Bool.and_true, Bool.true_and, and_self, and_true, true_and, if_true, if_false, ite_true, ite_false, Option.bind_some, Bool.false_eq_true, decide_true, decide_false, Bool.not_true, Bool.not_false, str_sp, str_ex, str_a, str_b, keyD, add_S [33] [97] (by decide), add_S [33] [98] (by decide), List.length_cons, List.length_nil]
  rfl
theorem dispB_ok {δ : Dl} : dispB δ = .ok (.dic tkK) δ := by
  unfold dispB mFz mDisp
  simp only [mPairs, Er.bindN, ev_setix, sa_lst, sb_lst, ixN_j0, ixN_j1, ev_getR, sg_own, sg_bor, ev_putR, sp_own, sp_bor, so_some, ev_C, ev_V, sv_val, sv_own, sv_bor, ev_1, ev_2, ev_nil, ev_cons, ev_A, ev_If, ev_T, ev_Or, ev_And, ev_Not, ev_TOr, ev_TAnd, ev_TNot, ev_Tup, ev_Lst, ev_LstF, ev_Fz, ev_Str1C, ev_bind, ev_bindX, ev_out, ev_outX, ev_opt, ev_seq, so_nx, so_ret, so_exc, ev_skip, ev_ifS, ao_some, ev_asg, ev_gN, ev_nob, sn_no, sn_val, sn_own, ev_own, ev_par, ev_gTl0, ev_gTl1, ev_gT, ev_ret, ev_retF, ev_expr, ev_raise, ev_for, ev_iter, ev_iterA, ev_sl, ev_noP, ev_partC, dr_slot, sr_own, sr_bor, sr_ownD, dr_non, dr_bl, dr_int, dr_str, dr_tup, dr_lst, dr_ro, dr_dic, dr_raw, u_non, u_bl, u_int, u_str, u_tup, u_lst, u_ro, u_dic, u_raw, tr_bl, ixA_lst, ixA_ro, ixA_tup, ixA_str, gt_int, ge_int, lt_int, le_int, add_int, sub_int, int_int, eq_int, List.getElem?_cons_zero, List.getElem?_cons_succ, List.set_cons_zero, List.set_cons_succ, List.map_cons, List.map_nil, List.all_cons, List.all_nil, Bool.and_self, Bool.and_true, Bool.true_and, and_self, and_true, true_and, if_true, if_false, ite_true, ite_false, Option.bind_some, Bool.false_eq_true, decide_true, decide_false, Bool.not_true, Bool.not_false, str_sp, str_ex, str_ea, str_eb, keyD, List.length_cons, List.length_nil]
  rfl
def tkF : D → D
  | .str z => .str (S (z.cps.toList.map tk).flatten)
  | d => d
theorem tkF_S (k : Nat) : tkF (.str (S [k])) = .str (S (tk k)) := by simp [tkF, S_toList]
theorem tkF_map (l : List Nat) : (l.map fun k => D.str (S [k])).map tkF = (l.map tk).map fun m => D.str (S m) := by
  rw [List.map_map, List.map_map]
  apply List.map_congr_left
  intro k _
  exact tkF_S k
theorem mem_signs {l : List Nat} {x : D} (h : x ∈ l.map fun k => D.str (S [k])) : ∃ k ∈ l, x = .str (S [k]) := by
  obtain ⟨k, h1, h2⟩ := List.mem_map.mp h
  exact ⟨k, h1, h2.symm⟩
theorem iter_S (l : List Nat) : iterD (.str (S l)) = some (l.map fun k => D.str (S [k])) := by
  show some (signs (S l)) = _
  rw [signs_S]
theorem text_code_body {l : List Nat} (hl : l.length ≤ 1000) : ∃ δ', text_code_D [.val (.str (S l)), .no, .no] = .ret (.val (.str (S ((l.map tk).flatten ++ [32])))) δ' := by
  have hk := tks_len l
  have em : mLc [2] (mIter (mV 0)) (gN 2) mYes (mGet2 (mV 1) (mV 2) (mV 2)) [.val (.str (S l)), .val (.dic tkK), .no] = .ok (.lst ((l.map tk).map fun m => D.str (S m))) [.val (.str (S l)), .val (.dic tkK), .no] := by
    rw [← tkF_map]
    refine lc_run (by simp only [ev_setix, sa_lst, sb_lst, ixN_j0, ixN_j1, ev_getR, sg_own, sg_bor, ev_putR, sp_own, sp_bor, so_some, ev_C, ev_V, sv_val, sv_own, sv_bor, ev_1, ev_2, ev_nil, ev_cons, ev_A, ev_If, ev_T, ev_Or, ev_And, ev_Not, ev_TOr, ev_TAnd, ev_TNot, ev_Tup, ev_Lst, ev_LstF, ev_Fz, ev_Str1C, ev_bind, ev_bindX, ev_out, ev_outX, ev_opt, ev_seq, so_nx, so_ret, so_exc, ev_skip, ev_ifS, ao_some, ev_asg, ev_gN, ev_nob, sn_no, sn_val, sn_own, ev_own, ev_par, ev_gTl0, ev_gTl1, ev_gT, ev_ret, ev_retF, ev_expr, ev_raise, ev_for, ev_iter, ev_iterA, ev_sl, ev_noP, ev_partC, dr_slot, sr_own, sr_bor, sr_ownD, dr_non, dr_bl, dr_int, dr_str, dr_tup, dr_lst, dr_ro, dr_dic, dr_raw, u_non, u_bl, u_int, u_str, u_tup, u_lst, u_ro, u_dic, u_raw, tr_bl, ixA_lst, ixA_ro, ixA_tup, ixA_str, gt_int, ge_int, lt_int, le_int, add_int, sub_int, int_int, eq_int, List.getElem?_cons_zero, List.getElem?_cons_succ, List.set_cons_zero, List.set_cons_succ, List.map_cons, List.map_nil, List.all_cons, List.all_nil, Bool.and_self, Bool.and_true, Bool.true_and, and_self, and_true, true_and, if_true, if_false, ite_true, ite_false, Option.bind_some, Bool.false_eq_true, decide_true, decide_false, Bool.not_true, Bool.not_false, iter_S]) rfl (fun x hx => ?_) (by simp; omega)
    obtain ⟨k, _, rfl⟩ := mem_signs hx
    refine ⟨rfl, rfl, ?_⟩
    rw [tkF_S, ← tk_get]
    exact get2_dic rfl rfl rfl rfl
  have ej := join_nil (l.map tk) (by omega)
  refine ⟨[.val (.str (S l)), .val (.dic tkK), .no], ?_⟩
  have ed : ∀ δ, mFz (mDisp [((mC (.str (" " : PySem.Str))), (m2 addD (mC (.str ("!" : PySem.Str))) (mC (.str ("a" : PySem.Str))))), ((mC (.str ("!" : PySem.Str))), (m2 addD (mC (.str ("!" : PySem.Str))) (mC (.str ("b" : PySem.Str)))))]) δ = .ok (.dic tkK) δ := fun δ => dispA_ok
  simp only [text_code_D, ev_seq, ev_asg, ed]
  simp only [ev_setix, sa_lst, sb_lst, ixN_j0, ixN_j1, ev_getR, sg_own, sg_bor, ev_putR, sp_own, sp_bor, so_some, ev_C, ev_V, sv_val, sv_own, sv_bor, ev_1, ev_2, ev_nil, ev_cons, ev_A, ev_If, ev_T, ev_Or, ev_And, ev_Not, ev_TOr, ev_TAnd, ev_TNot, ev_Tup, ev_Lst, ev_LstF, ev_Fz, ev_Str1C, ev_bind, ev_bindX, ev_out, ev_outX, ev_opt, ev_seq, so_nx, so_ret, so_exc, ev_skip, ev_ifS, ao_some, ev_asg, ev_gN, ev_nob, sn_no, sn_val, sn_own, ev_own, ev_par, ev_gTl0, ev_gTl1, ev_gT, ev_ret, ev_retF, ev_expr, ev_raise, ev_for, ev_iter, ev_iterA, ev_sl, ev_noP, ev_partC, dr_slot, sr_own, sr_bor, sr_ownD, dr_non, dr_bl, dr_int, dr_str, dr_tup, dr_lst, dr_ro, dr_dic, dr_raw, u_non, u_bl, u_int, u_str, u_tup, u_lst, u_ro, u_dic, u_raw, tr_bl, ixA_lst, ixA_ro, ixA_tup, ixA_str, gt_int, ge_int, lt_int, le_int, add_int, sub_int, int_int, eq_int, List.getElem?_cons_zero, List.getElem?_cons_succ, List.set_cons_zero, List.set_cons_succ, List.map_cons, List.map_nil, List.all_cons, List.all_nil, Bool.and_self, Bool.and_true, Bool.true_and, and_self, and_true, true_and, if_true, if_false, ite_true, ite_false, Option.bind_some, Bool.false_eq_true, decide_true, decide_false, Bool.not_true, Bool.not_false, em, str_no, str_sp, frz, ej, add_S (l.map tk).flatten [32] (by show _ + 1 ≤ _; omega)]
end DL
set_option Elab.async false
set_option linter.all false
set_option maxRecDepth 100000
set_option autoImplicit false
set_option maxHeartbeats 400000
namespace DL
open PySem PySem.Spec PyProof.Rows L2
theorem str_nat {n : Nat} (h : n < 10 ^ 31) : strD [.int (n : Int)] = some (.str (S (TL.numL n))) := by
  show (if ((n : Int)).natAbs.log2 < 1920 then some (D.str (Str.ofString (toString (n : Int)))) else none) = _
  rw [if_pos ?_, SX.num_S n]
  rw [Int.natAbs_natCast]
  by_cases h0 : n = 0
  · subst h0; decide
  · have : n.log2 < 200 := (Nat.log2_lt h0).mpr (Nat.lt_trans h (by decide))
    omega
theorem abs_int (i : Int) : absD [.int i] = some (.int ((i.natAbs : Nat) : Int)) := by
  show some (D.int (if i < 0 then -i else i)) = _
  congr 2
  split <;> omega
theorem dig_int {k : Nat} (h : 48 ≤ k) (h2 : k ≤ 57) : intD [.str (S [k])] = some (.int ((k - 48 : Nat) : Int)) := by
  show (if (S [k]).length ≤ 640 then (PySem.intText? (S [k])).map D.int else none) = _
  rw [S_len, if_pos (by show 1 ≤ 640; decide)]
  have e := SX.int_S (a := [k]) (by simp [h, h2]) (by simp) (by show 1 ≤ 4300; decide)
  have e' : PySem.intText? (S [k]) = some ((NumText.digitsVal [k] : Nat) : Int) := e
  rw [e']
  have : NumText.digitsVal [k] = k - 48 := by simp [NumText.digitsVal]
  rw [this]
  rfl
def rv : D → D
  | .str z => .str (S (z.cps.toList.map (105 - ·)))
  | d => d
theorem rv_S (k : Nat) : rv (.str (S [k])) = .str (S [105 - k]) := by simp [rv, S_toList]
theorem rv_map (l : List Nat) : (l.map fun k => D.str (S [k])).map rv = (l.map fun k => [105 - k]).map fun m => D.str (S m) := by
  rw [List.map_map, List.map_map]
  apply List.map_congr_left
  intro k _
  exact rv_S k
theorem flat_rv (l : List Nat) : (l.map fun k => [105 - k]).flatten = l.map (105 - ·) := by
  induction l with
  | nil => rfl
  | cons k l ih => rw [List.map_cons, List.flatten_cons, ih]; rfl
theorem num_dig {n : Nat} {k : Nat} (h : k ∈ TL.numL n) : 48 ≤ k ∧ k ≤ 57 := by
  by_cases q : k < 48 ∨ 57 < k
  · exact (TL.numL_free q h).elim
  · omega
theorem str_rev : ("9876543210" : PySem.Str) = S [57, 56, 55, 54, 53, 52, 51, 50, 49, 48] := by decide +kernel
theorem rev_ix {k : Nat} (h : 48 ≤ k) (h2 : k ≤ 57) : ixD (.str (S [57, 56, 55, 54, 53, 52, 51, 50, 49, 48])) (.int ((k - 48 : Nat) : Int)) = some (.str (S [105 - k])) := by
  obtain ⟨c, e, q⟩ := ix_S (l := [57, 56, 55, 54, 53, 52, 51, 50, 49, 48]) (r := ((k - 48 : Nat) : Int)) (by decide) (by omega) (by show _ < ((10 : Nat) : Int); omega)
  rw [q]
  have all : ∀ j < 10, ([57, 56, 55, 54, 53, 52, 51, 50, 49, 48] : List Nat)[j]? = some (57 - j) := by decide
  have := all (k - 48) (by omega)
  rw [Int.toNat_natCast, this] at e
  have : c = 105 - k := by have := Option.some.inj e; omega
  rw [this]
abbrev cntL : List Nat := [65, 66, 67, 68, 69, 70, 71, 72, 73, 74, 75, 76, 77, 78, 79, 80, 81, 82, 83, 84, 85, 86, 87, 88, 89, 90, 91, 92, 93, 94, 95]
theorem str_cnt : ("ABCDEFGHIJKLMNOPQRSTUVWXYZ[\\]^_" : PySem.Str) = S cntL := by decide +kernel
theorem str_p : ("p" : PySem.Str) = S [112] := by decide +kernel
theorem str_n : ("n" : PySem.Str) = S [110] := by decide +kernel
theorem isi_ss {z : Str} : isiD [.str z, .raw (.ty "str")] = some (.bl true) := by simp [isiD, tyN, isiN]
theorem isi_is {i : Int} : isiD [.int i, .raw (.ty "str")] = some (.bl false) := by simp [isiD, tyN, isiN]
theorem isi_ii {i : Int} : isiD [.int i, .raw (.ty "int")] = some (.bl true) := by simp [isiD, tyN, isiN]
theorem isi_ib {i : Int} : isiD [.int i, .raw (.ty "bool")] = some (.bl false) := by simp [isiD, tyN, isiN]
theorem isi_sb {z : Str} : isiD [.str z, .raw (.ty "bool")] = some (.bl false) := by simp [isiD, tyN, isiN]
theorem isi_si {z : Str} : isiD [.str z, .raw (.ty "int")] = some (.bl false) := by simp [isiD, tyN, isiN]
theorem isi_bb {k : Bool} : isiD [.bl k, .raw (.ty "bool")] = some (.bl true) := by simp [isiD, tyN, isiN]
theorem isi_lb {ds : List D} : isiD [.lst ds, .raw (.ty "bool")] = some (.bl false) := by simp [isiD, tyN, isiN]
theorem isi_li {ds : List D} : isiD [.lst ds, .raw (.ty "int")] = some (.bl false) := by simp [isiD, tyN, isiN]
theorem isi_ls {ds : List D} : isiD [.lst ds, .raw (.ty "str")] = some (.bl false) := by simp [isiD, tyN, isiN]
theorem isi_tb {ds : List D} : isiD [.tup ds, .raw (.ty "bool")] = some (.bl false) := by simp [isiD, tyN, isiN]
theorem isi_ti {ds : List D} : isiD [.tup ds, .raw (.ty "int")] = some (.bl false) := by simp [isiD, tyN, isiN]
theorem isi_ts {ds : List D} : isiD [.tup ds, .raw (.ty "str")] = some (.bl false) := by simp [isiD, tyN, isiN]
theorem isi_tt {ds : List D} : isiD [.tup ds, .raw (.ty "tuple")] = some (.bl true) := by simp [isiD, tyN, isiN]
theorem is_in {i : Int} : isA (.int i) .non = some (.bl false) := rfl
theorem is_ib {i : Int} {k : Bool} : isA (.int i) (.bl k) = some (.bl false) := rfl
theorem is_sn {z : Str} : isA (.str z) .non = some (.bl false) := rfl
theorem is_sb {z : Str} {k : Bool} : isA (.str z) (.bl k) = some (.bl false) := rfl
theorem is_nn : isA .non .non = some (.bl true) := rfl
theorem is_bn {k : Bool} : isA (.bl k) .non = some (.bl false) := rfl
theorem is_bb {j k : Bool} : isA (.bl j) (.bl k) = some (.bl (decide (j = k))) := rfl
theorem is_ln {ds : List D} : isA (.lst ds) .non = some (.bl false) := rfl
theorem is_tn {ds : List D} : isA (.tup ds) .non = some (.bl false) := rfl
theorem number_both {i : Int} (h1 : -1000000000000000000000000000000 < i) (h2 : i < 1000000000000000000000000000000) : ∃ z δ1 δ2, (∀ k ∈ z, k < 1114112) ∧ number_code_D [.val (.int i), .no, .no] = .ret (.val (.str (S z))) δ1 ∧ _law_code_D [.val (.int i), .no, .no, .no, .no] = .ret (.val (.str (S z))) δ2 := by
  by_cases h0 : i = 0
  · subst h0
    refine ⟨[111], [.val (.int 0), .no, .no], [.val (.int 0), .val (.str (S cntL)), .no, .no, .no], by decide, ?_, ?_⟩
    · simp only [number_code_D, ev_setix, sa_lst, sb_lst, ixN_j0, ixN_j1, ev_getR, sg_own, sg_bor, ev_putR, sp_own, sp_bor, so_some, ev_C, ev_V, sv_val, sv_own, sv_bor, ev_1, ev_2, ev_nil, ev_cons, ev_A, ev_If, ev_T, ev_Or, ev_And, ev_Not, ev_TOr, ev_TAnd, ev_TNot, ev_Tup, ev_Lst, ev_LstF, ev_Fz, ev_Str1C, ev_bind, ev_bindX, ev_out, ev_outX, ev_opt, ev_seq, so_nx, so_ret, so_exc, ev_skip, ev_ifS, ao_some, ev_asg, ev_gN, ev_nob, sn_no, sn_val, sn_own, ev_own, ev_par, ev_gTl0, ev_gTl1, ev_gT, ev_ret, ev_retF, ev_expr, ev_raise, ev_for, ev_iter, ev_iterA, ev_sl, ev_noP, ev_partC, dr_slot, sr_own, sr_bor, sr_ownD, dr_non, dr_bl, dr_int, dr_str, dr_tup, dr_lst, dr_ro, dr_dic, dr_raw, u_non, u_bl, u_int, u_str, u_tup, u_lst, u_ro, u_dic, u_raw, tr_bl, ixA_lst, ixA_ro, ixA_tup, ixA_str, gt_int, ge_int, lt_int, le_int, add_int, sub_int, int_int, eq_int, List.getElem?_cons_zero, List.getElem?_cons_succ, List.set_cons_zero, List.set_cons_succ, List.map_cons, List.map_nil, List.all_cons, List.all_nil, Bool.and_self, Bool.and_true, Bool.true_and, and_self, and_true, true_and, if_true, if_false, ite_true, ite_false, Option.bind_some, Bool.false_eq_true, decide_true, decide_false, Bool.not_true, Bool.not_false]
      rfl
    · simp only [_law_code_D, ev_setix, sa_lst, sb_lst, ixN_j0, ixN_j1, ev_getR, sg_own, sg_bor, ev_putR, sp_own, sp_bor, so_some, ev_C, ev_V, sv_val, sv_own, sv_bor, ev_1, ev_2, ev_nil, ev_cons, ev_A, ev_If, ev_T, ev_Or, ev_And, ev_Not, ev_TOr, ev_TAnd, ev_TNot, ev_Tup, ev_Lst, ev_LstF, ev_Fz, ev_Str1C, ev_bind, ev_bindX, ev_out, ev_outX, ev_opt, ev_seq, so_nx, so_ret, so_exc, ev_skip, ev_ifS, ao_some, ev_asg, ev_gN, ev_nob, sn_no, sn_val, sn_own, ev_own, ev_par, ev_gTl0, ev_gTl1, ev_gT, ev_ret, ev_retF, ev_expr, ev_raise, ev_for, ev_iter, ev_iterA, ev_sl, ev_noP, ev_partC, dr_slot, sr_own, sr_bor, sr_ownD, dr_non, dr_bl, dr_int, dr_str, dr_tup, dr_lst, dr_ro, dr_dic, dr_raw, u_non, u_bl, u_int, u_str, u_tup, u_lst, u_ro, u_dic, u_raw, tr_bl, ixA_lst, ixA_ro, ixA_tup, ixA_str, gt_int, ge_int, lt_int, le_int, add_int, sub_int, int_int, eq_int, List.getElem?_cons_zero, List.getElem?_cons_succ, List.set_cons_zero, List.set_cons_succ, List.map_cons, List.map_nil, List.all_cons, List.all_nil, Bool.and_self, Bool.and_true, Bool.true_and, and_self, and_true, true_and, if_true, if_false, ite_true, ite_false, Option.bind_some, Bool.false_eq_true, decide_true, decide_false, Bool.not_true, Bool.not_false, is_in, is_ib, isi_is, str_cnt]
      rfl
  · have hcn : ∀ k ∈ cntL, k < 1114112 := by decide
    have hn : i.natAbs < 10 ^ 30 := by
      have : (10 ^ 30 : Nat) = 1000000000000000000000000000000 := by decide
      rw [this]; omega
    have l1 := TL.numL_len (n := i.natAbs) (k := 30) (by decide) hn
    have l2 : 1 ≤ (TL.numL i.natAbs).length := by
      have := TL.numL_ne i.natAbs
      cases hq : TL.numL i.natAbs with
      | nil => exact (this hq).elim
      | cons a l => simp
    have es := str_nat (n := i.natAbs) (Nat.lt_trans hn (by decide))
    have hd := fun k (hk : k ∈ TL.numL i.natAbs) => num_dig hk
    generalize TL.numL i.natAbs = ds at l1 l2 es hd
    have el := len_S ds (by omega)
    by_cases hp : 0 < i
    · obtain ⟨c, hc, ec⟩ := ix_S (l := cntL) (r := (ds.length : Int) - 1) (by decide) (by omega) (by show _ < ((31 : Nat) : Int); omega)
      have f1 := add_S [112] [c] (by show 2 ≤ 16777216; decide)
      have f2 := add_S ([112] ++ [c]) ds (by show 2 + _ ≤ _; omega)
      refine ⟨[112] ++ [c] ++ ds, [.val (.int i), .val (.str (S ds)), .no], [.val (.int i), .val (.str (S cntL)), .val (.str (S ds)), .no, .no], ?_, ?_, ?_⟩
      · intro k hk
        rcases List.mem_append.mp hk with hk | hk
        · rcases List.mem_append.mp hk with hk | hk
          · rw [List.mem_singleton.mp hk]; decide
          · rw [List.mem_singleton.mp hk]; exact hcn c (List.mem_of_getElem? hc)
        · have := hd k hk; omega
      · simp only [number_code_D, ev_setix, sa_lst, sb_lst, ixN_j0, ixN_j1, ev_getR, sg_own, sg_bor, ev_putR, sp_own, sp_bor, so_some, ev_C, ev_V, sv_val, sv_own, sv_bor, ev_1, ev_2, ev_nil, ev_cons, ev_A, ev_If, ev_T, ev_Or, ev_And, ev_Not, ev_TOr, ev_TAnd, ev_TNot, ev_Tup, ev_Lst, ev_LstF, ev_Fz, ev_Str1C, ev_bind, ev_bindX, ev_out, ev_outX, ev_opt, ev_seq, so_nx, so_ret, so_exc, ev_skip, ev_ifS, ao_some, ev_asg, ev_gN, ev_nob, sn_no, sn_val, sn_own, ev_own, ev_par, ev_gTl0, ev_gTl1, ev_gT, ev_ret, ev_retF, ev_expr, ev_raise, ev_for, ev_iter, ev_iterA, ev_sl, ev_noP, ev_partC, dr_slot, sr_own, sr_bor, sr_ownD, dr_non, dr_bl, dr_int, dr_str, dr_tup, dr_lst, dr_ro, dr_dic, dr_raw, u_non, u_bl, u_int, u_str, u_tup, u_lst, u_ro, u_dic, u_raw, tr_bl, ixA_lst, ixA_ro, ixA_tup, ixA_str, gt_int, ge_int, lt_int, le_int, add_int, sub_int, int_int, eq_int, List.getElem?_cons_zero, List.getElem?_cons_succ, List.set_cons_zero, List.set_cons_succ, List.map_cons, List.map_nil, List.all_cons, List.all_nil, Bool.and_self, Bool.and_true, Bool.true_and, and_self, and_true, true_and, if_true, if_false, ite_true, ite_false, Option.bind_some, Bool.false_eq_true, decide_true, decide_false, Bool.not_true, Bool.not_false, str_cnt, h0, hp, abs_int, es, el, ec, str_p, f1, f2]
      · simp only [_law_code_D, ev_setix, sa_lst, sb_lst, ixN_j0, ixN_j1, ev_getR, sg_own, sg_bor, ev_putR, sp_own, sp_bor, so_some, ev_C, ev_V, sv_val, sv_own, sv_bor, ev_1, ev_2, ev_nil, ev_cons, ev_A, ev_If, ev_T, ev_Or, ev_And, ev_Not, ev_TOr, ev_TAnd, ev_TNot, ev_Tup, ev_Lst, ev_LstF, ev_Fz, ev_Str1C, ev_bind, ev_bindX, ev_out, ev_outX, ev_opt, ev_seq, so_nx, so_ret, so_exc, ev_skip, ev_ifS, ao_some, ev_asg, ev_gN, ev_nob, sn_no, sn_val, sn_own, ev_own, ev_par, ev_gTl0, ev_gTl1, ev_gT, ev_ret, ev_retF, ev_expr, ev_raise, ev_for, ev_iter, ev_iterA, ev_sl, ev_noP, ev_partC, dr_slot, sr_own, sr_bor, sr_ownD, dr_non, dr_bl, dr_int, dr_str, dr_tup, dr_lst, dr_ro, dr_dic, dr_raw, u_non, u_bl, u_int, u_str, u_tup, u_lst, u_ro, u_dic, u_raw, tr_bl, ixA_lst, ixA_ro, ixA_tup, ixA_str, gt_int, ge_int, lt_int, le_int, add_int, sub_int, int_int, eq_int, List.getElem?_cons_zero, List.getElem?_cons_succ, List.set_cons_zero, List.set_cons_succ, List.map_cons, List.map_nil, List.all_cons, List.all_nil, Bool.and_self, Bool.and_true, Bool.true_and, and_self, and_true, true_and, if_true, if_false, ite_true, ite_false, Option.bind_some, Bool.false_eq_true, decide_true, decide_false, Bool.not_true, Bool.not_false, is_in, is_ib, isi_is, str_cnt, h0, hp, abs_int, es, el, ec, str_p, f1, f2]
    · obtain ⟨c, hc, ec⟩ := ix_S (l := cntL) (r := 31 - (ds.length : Int)) (by decide) (by omega) (by show _ < ((31 : Nat) : Int); omega)
      have f1 := add_S [110] [c] (by show 2 ≤ 16777216; decide)
      have f2 := add_S ([110] ++ [c]) (ds.map (105 - ·)) (by rw [List.length_map]; show 2 + _ ≤ _; omega)
      have ej := join_nil (ds.map fun k => [105 - k]) (by rw [flat_rv, List.length_map]; omega)
      rw [flat_rv] at ej
      have em : mLc [2] (mIter (mV 1)) (gN 2) mYes (mA strD (mCons (m2 subD (mC (.int 9)) (mA intD (mCons (mV 2) mNil))) mNil)) [.val (.int i), .val (.str (S ds)), .no] = .ok (.lst ((ds.map fun k => [105 - k]).map fun m => D.str (S m))) [.val (.int i), .val (.str (S ds)), .no] := by
        rw [← rv_map]
        refine lc_run (by simp only [ev_setix, sa_lst, sb_lst, ixN_j0, ixN_j1, ev_getR, sg_own, sg_bor, ev_putR, sp_own, sp_bor, so_some, ev_C, ev_V, sv_val, sv_own, sv_bor, ev_1, ev_2, ev_nil, ev_cons, ev_A, ev_If, ev_T, ev_Or, ev_And, ev_Not, ev_TOr, ev_TAnd, ev_TNot, ev_Tup, ev_Lst, ev_LstF, ev_Fz, ev_Str1C, ev_bind, ev_bindX, ev_out, ev_outX, ev_opt, ev_seq, so_nx, so_ret, so_exc, ev_skip, ev_ifS, ao_some, ev_asg, ev_gN, ev_nob, sn_no, sn_val, sn_own, ev_own, ev_par, ev_gTl0, ev_gTl1, ev_gT, ev_ret, ev_retF, ev_expr, ev_raise, ev_for, ev_iter, ev_iterA, ev_sl, ev_noP, ev_partC, dr_slot, sr_own, sr_bor, sr_ownD, dr_non, dr_bl, dr_int, dr_str, dr_tup, dr_lst, dr_ro, dr_dic, dr_raw, u_non, u_bl, u_int, u_str, u_tup, u_lst, u_ro, u_dic, u_raw, tr_bl, ixA_lst, ixA_ro, ixA_tup, ixA_str, gt_int, ge_int, lt_int, le_int, add_int, sub_int, int_int, eq_int, List.getElem?_cons_zero, List.getElem?_cons_succ, List.set_cons_zero, List.set_cons_succ, List.map_cons, List.map_nil, List.all_cons, List.all_nil, Bool.and_self, Bool.and_true, Bool.true_and, and_self, and_true, true_and, if_true, if_false, ite_true, ite_false, Option.bind_some, Bool.false_eq_true, decide_true, decide_false, Bool.not_true, Bool.not_false, iter_S]) rfl (fun x hx => ?_) (by rw [List.length_map]; omega)
        obtain ⟨k, hk, rfl⟩ := mem_signs hx
        obtain ⟨q1, q2⟩ := hd k hk
        refine ⟨rfl, rfl, ?_⟩
        have e9 : (9 : Int) - ((k - 48 : Nat) : Int) = ((57 - k : Nat) : Int) := by omega
        have e10 := str_nat (n := 57 - k) (Nat.lt_of_le_of_lt (by omega : 57 - k ≤ 9) (by decide))
        rw [TL.numL_lt (by omega), show 48 + (57 - k) = 105 - k by omega] at e10
        rw [rv_S]
        simp only [ev_setix, sa_lst, sb_lst, ixN_j0, ixN_j1, ev_getR, sg_own, sg_bor, ev_putR, sp_own, sp_bor, so_some, ev_C, ev_V, sv_val, sv_own, sv_bor, ev_1, ev_2, ev_nil, ev_cons, ev_A, ev_If, ev_T, ev_Or, ev_And, ev_Not, ev_TOr, ev_TAnd, ev_TNot, ev_Tup, ev_Lst, ev_LstF, ev_Fz, ev_Str1C, ev_bind, ev_bindX, ev_out, ev_outX, ev_opt, ev_seq, so_nx, so_ret, so_exc, ev_skip, ev_ifS, ao_some, ev_asg, ev_gN, ev_nob, sn_no, sn_val, sn_own, ev_own, ev_par, ev_gTl0, ev_gTl1, ev_gT, ev_ret, ev_retF, ev_expr, ev_raise, ev_for, ev_iter, ev_iterA, ev_sl, ev_noP, ev_partC, dr_slot, sr_own, sr_bor, sr_ownD, dr_non, dr_bl, dr_int, dr_str, dr_tup, dr_lst, dr_ro, dr_dic, dr_raw, u_non, u_bl, u_int, u_str, u_tup, u_lst, u_ro, u_dic, u_raw, tr_bl, ixA_lst, ixA_ro, ixA_tup, ixA_str, gt_int, ge_int, lt_int, le_int, add_int, sub_int, int_int, eq_int, List.getElem?_cons_zero, List.getElem?_cons_succ, List.set_cons_zero, List.set_cons_succ, List.map_cons, List.map_nil, List.all_cons, List.all_nil, Bool.and_self, Bool.and_true, Bool.true_and, and_self, and_true, true_and, if_true, if_false, ite_true, ite_false, Option.bind_some, Bool.false_eq_true, decide_true, decide_false, Bool.not_true, Bool.not_false, dig_int q1 q2, e9, e10]
      have em2 : mLc [4] (mIter (mV 2)) (gN 4) mYes (m2 ixA (mC (.str ("9876543210" : PySem.Str))) (mA intD (mCons (mV 4) mNil))) [.val (.int i), .val (.str (S cntL)), .val (.str (S ds)), .no, .no] = .ok (.lst ((ds.map fun k => [105 - k]).map fun m => D.str (S m))) [.val (.int i), .val (.str (S cntL)), .val (.str (S ds)), .no, .no] := by
        rw [← rv_map]
        refine lc_run (by simp only [ev_setix, sa_lst, sb_lst, ixN_j0, ixN_j1, ev_getR, sg_own, sg_bor, ev_putR, sp_own, sp_bor, so_some, ev_C, ev_V, sv_val, sv_own, sv_bor, ev_1, ev_2, ev_nil, ev_cons, ev_A, ev_If, ev_T, ev_Or, ev_And, ev_Not, ev_TOr, ev_TAnd, ev_TNot, ev_Tup, ev_Lst, ev_LstF, ev_Fz, ev_Str1C, ev_bind, ev_bindX, ev_out, ev_outX, ev_opt, ev_seq, so_nx, so_ret, so_exc, ev_skip, ev_ifS, ao_some, ev_asg, ev_gN, ev_nob, sn_no, sn_val, sn_own, ev_own, ev_par, ev_gTl0, ev_gTl1, ev_gT, ev_ret, ev_retF, ev_expr, ev_raise, ev_for, ev_iter, ev_iterA, ev_sl, ev_noP, ev_partC, dr_slot, sr_own, sr_bor, sr_ownD, dr_non, dr_bl, dr_int, dr_str, dr_tup, dr_lst, dr_ro, dr_dic, dr_raw, u_non, u_bl, u_int, u_str, u_tup, u_lst, u_ro, u_dic, u_raw, tr_bl, ixA_lst, ixA_ro, ixA_tup, ixA_str, gt_int, ge_int, lt_int, le_int, add_int, sub_int, int_int, eq_int, List.getElem?_cons_zero, List.getElem?_cons_succ, List.set_cons_zero, List.set_cons_succ, List.map_cons, List.map_nil, List.all_cons, List.all_nil, Bool.and_self, Bool.and_true, Bool.true_and, and_self, and_true, true_and, if_true, if_false, ite_true, ite_false, Option.bind_some, Bool.false_eq_true, decide_true, decide_false, Bool.not_true, Bool.not_false, iter_S]) rfl (fun x hx => ?_) (by rw [List.length_map]; omega)
        obtain ⟨k, hk, rfl⟩ := mem_signs hx
        obtain ⟨q1, q2⟩ := hd k hk
        refine ⟨rfl, rfl, ?_⟩
        rw [rv_S]
        simp only [ev_setix, sa_lst, sb_lst, ixN_j0, ixN_j1, ev_getR, sg_own, sg_bor, ev_putR, sp_own, sp_bor, so_some, ev_C, ev_V, sv_val, sv_own, sv_bor, ev_1, ev_2, ev_nil, ev_cons, ev_A, ev_If, ev_T, ev_Or, ev_And, ev_Not, ev_TOr, ev_TAnd, ev_TNot, ev_Tup, ev_Lst, ev_LstF, ev_Fz, ev_Str1C, ev_bind, ev_bindX, ev_out, ev_outX, ev_opt, ev_seq, so_nx, so_ret, so_exc, ev_skip, ev_ifS, ao_some, ev_asg, ev_gN, ev_nob, sn_no, sn_val, sn_own, ev_own, ev_par, ev_gTl0, ev_gTl1, ev_gT, ev_ret, ev_retF, ev_expr, ev_raise, ev_for, ev_iter, ev_iterA, ev_sl, ev_noP, ev_partC, dr_slot, sr_own, sr_bor, sr_ownD, dr_non, dr_bl, dr_int, dr_str, dr_tup, dr_lst, dr_ro, dr_dic, dr_raw, u_non, u_bl, u_int, u_str, u_tup, u_lst, u_ro, u_dic, u_raw, tr_bl, ixA_lst, ixA_ro, ixA_tup, ixA_str, gt_int, ge_int, lt_int, le_int, add_int, sub_int, int_int, eq_int, List.getElem?_cons_zero, List.getElem?_cons_succ, List.set_cons_zero, List.set_cons_succ, List.map_cons, List.map_nil, List.all_cons, List.all_nil, Bool.and_self, Bool.and_true, Bool.true_and, and_self, and_true, true_and, if_true, if_false, ite_true, ite_false, Option.bind_some, Bool.false_eq_true, decide_true, decide_false, Bool.not_true, Bool.not_false, dig_int q1 q2, str_rev, rev_ix q1 q2]
      rw [str_rev] at em2
      refine ⟨[110] ++ [c] ++ ds.map (105 - ·), [.val (.int i), .val (.str (S ds)), .no], [.val (.int i), .val (.str (S cntL)), .val (.str (S ds)), .no, .no], ?_, ?_, ?_⟩
      · intro k hk
        rcases List.mem_append.mp hk with hk | hk
        · rcases List.mem_append.mp hk with hk | hk
          · rw [List.mem_singleton.mp hk]; decide
          · rw [List.mem_singleton.mp hk]; exact hcn c (List.mem_of_getElem? hc)
        · obtain ⟨j, hj, rfl⟩ := List.mem_map.mp hk
          omega
      · simp only [number_code_D, ev_setix, sa_lst, sb_lst, ixN_j0, ixN_j1, ev_getR, sg_own, sg_bor, ev_putR, sp_own, sp_bor, so_some, ev_C, ev_V, sv_val, sv_own, sv_bor, ev_1, ev_2, ev_nil, ev_cons, ev_A, ev_If, ev_T, ev_Or, ev_And, ev_Not, ev_TOr, ev_TAnd, ev_TNot, ev_Tup, ev_Lst, ev_LstF, ev_Fz, ev_Str1C, ev_bind, ev_bindX, ev_out, ev_outX, ev_opt, ev_seq, so_nx, so_ret, so_exc, ev_skip, ev_ifS, ao_some, ev_asg, ev_gN, ev_nob, sn_no, sn_val, sn_own, ev_own, ev_par, ev_gTl0, ev_gTl1, ev_gT, ev_ret, ev_retF, ev_expr, ev_raise, ev_for, ev_iter, ev_iterA, ev_sl, ev_noP, ev_partC, dr_slot, sr_own, sr_bor, sr_ownD, dr_non, dr_bl, dr_int, dr_str, dr_tup, dr_lst, dr_ro, dr_dic, dr_raw, u_non, u_bl, u_int, u_str, u_tup, u_lst, u_ro, u_dic, u_raw, tr_bl, ixA_lst, ixA_ro, ixA_tup, ixA_str, gt_int, ge_int, lt_int, le_int, add_int, sub_int, int_int, eq_int, List.getElem?_cons_zero, List.getElem?_cons_succ, List.set_cons_zero, List.set_cons_succ, List.map_cons, List.map_nil, List.all_cons, List.all_nil, Bool.and_self, Bool.and_true, Bool.true_and, and_self, and_true, true_and, if_true, if_false, ite_true, ite_false, Option.bind_some, Bool.false_eq_true, decide_true, decide_false, Bool.not_true, Bool.not_false, str_cnt, h0, hp, abs_int, es, el, ec, str_n, str_no, em, frz, ej, f1, f2, Int.reduceAdd]
      · simp only [_law_code_D, ev_setix, sa_lst, sb_lst, ixN_j0, ixN_j1, ev_getR, sg_own, sg_bor, ev_putR, sp_own, sp_bor, so_some, ev_C, ev_V, sv_val, sv_own, sv_bor, ev_1, ev_2, ev_nil, ev_cons, ev_A, ev_If, ev_T, ev_Or, ev_And, ev_Not, ev_TOr, ev_TAnd, ev_TNot, ev_Tup, ev_Lst, ev_LstF, ev_Fz, ev_Str1C, ev_bind, ev_bindX, ev_out, ev_outX, ev_opt, ev_seq, so_nx, so_ret, so_exc, ev_skip, ev_ifS, ao_some, ev_asg, ev_gN, ev_nob, sn_no, sn_val, sn_own, ev_own, ev_par, ev_gTl0, ev_gTl1, ev_gT, ev_ret, ev_retF, ev_expr, ev_raise, ev_for, ev_iter, ev_iterA, ev_sl, ev_noP, ev_partC, dr_slot, sr_own, sr_bor, sr_ownD, dr_non, dr_bl, dr_int, dr_str, dr_tup, dr_lst, dr_ro, dr_dic, dr_raw, u_non, u_bl, u_int, u_str, u_tup, u_lst, u_ro, u_dic, u_raw, tr_bl, ixA_lst, ixA_ro, ixA_tup, ixA_str, gt_int, ge_int, lt_int, le_int, add_int, sub_int, int_int, eq_int, List.getElem?_cons_zero, List.getElem?_cons_succ, List.set_cons_zero, List.set_cons_succ, List.map_cons, List.map_nil, List.all_cons, List.all_nil, Bool.and_self, Bool.and_true, Bool.true_and, and_self, and_true, true_and, if_true, if_false, ite_true, ite_false, Option.bind_some, Bool.false_eq_true, decide_true, decide_false, Bool.not_true, Bool.not_false, is_in, is_ib, isi_is, str_cnt, h0, hp, abs_int, es, el, ec, str_n, str_no, str_rev, em2, frz, ej, f1, f2]
end DL
set_option Elab.async false
set_option linter.all false
set_option maxRecDepth 100000
set_option autoImplicit false
set_option maxHeartbeats 400000
namespace DL
open PySem PySem.Spec PyProof.Rows L2
def inR (k : Nat) : Bool := decide (32 ≤ k) && decide (k ≤ 126)
def inF : D → D
  | .str z => .bl (z.cps.toList.all inR)
  | d => d
theorem inF_S (k : Nat) : inF (.str (S [k])) = .bl (inR k) := by simp [inF, S_toList]
theorem str_til : ("~" : PySem.Str) = S [126] := by decide +kernel
theorem bls_in : ∀ l : List Nat, blsD ((l.map fun k => D.str (S [k])).map inF) = some (l.map inR)
  | [] => rfl
  | k :: l => by
    rw [List.map_cons, List.map_cons, inF_S]
    show (blsD _).map _ = _
    rw [bls_in l]
    rfl
theorem all_in (l : List Nat) : allD [.lst ((l.map fun k => D.str (S [k])).map inF)] = some (.bl (l.all inR)) := by
  show (blsD _).map _ = _
  rw [bls_in]
  simp [List.all_map]
theorem chain_in {l : List Nat} {k : Nat} : mChain leD leD (mC (.str (S [32]))) (mV 1) (mC (.str (S [126]))) [.val (.str (S l)), .val (.str (S [k]))] = .ok (.bl (inR k)) [.val (.str (S l)), .val (.str (S [k]))] := by
  unfold mChain inR
  simp only [ev_setix, sa_lst, sb_lst, ixN_j0, ixN_j1, ev_getR, sg_own, sg_bor, ev_putR, sp_own, sp_bor, so_some, ev_C, ev_V, sv_val, sv_own, sv_bor, ev_1, ev_2, ev_nil, ev_cons, ev_A, ev_If, ev_T, ev_Or, ev_And, ev_Not, ev_TOr, ev_TAnd, ev_TNot, ev_Tup, ev_Lst, ev_LstF, ev_Fz, ev_Str1C, ev_bind, ev_bindX, ev_out, ev_outX, ev_opt, ev_seq, so_nx, so_ret, so_exc, ev_skip, ev_ifS, ao_some, ev_asg, ev_gN, ev_nob, sn_no, sn_val, sn_own, ev_own, ev_par, ev_gTl0, ev_gTl1, ev_gT, ev_ret, ev_retF, ev_expr, ev_raise, ev_for, ev_iter, ev_iterA, ev_sl, ev_noP, ev_partC, dr_slot, sr_own, sr_bor, sr_ownD, dr_non, dr_bl, dr_int, dr_str, dr_tup, dr_lst, dr_ro, dr_dic, dr_raw, u_non, u_bl, u_int, u_str, u_tup, u_lst, u_ro, u_dic, u_raw, tr_bl, ixA_lst, ixA_ro, ixA_tup, ixA_str, gt_int, ge_int, lt_int, le_int, add_int, sub_int, int_int, eq_int, List.getElem?_cons_zero, List.getElem?_cons_succ, List.set_cons_zero, List.set_cons_succ, List.map_cons, List.map_nil, List.all_cons, List.all_nil, Bool.and_self, Bool.and_true, Bool.true_and, and_self, and_true, true_and, if_true, if_false, ite_true, ite_false, Option.bind_some, Bool.false_eq_true, decide_true, decide_false, Bool.not_true, Bool.not_false, le_S1]
  by_cases h : 32 ≤ k
  · simp only [h, decide_true, ev_setix, sa_lst, sb_lst, ixN_j0, ixN_j1, ev_getR, sg_own, sg_bor, ev_putR, sp_own, sp_bor, so_some, ev_C, ev_V, sv_val, sv_own, sv_bor, ev_1, ev_2, ev_nil, ev_cons, ev_A, ev_If, ev_T, ev_Or, ev_And, ev_Not, ev_TOr, ev_TAnd, ev_TNot, ev_Tup, ev_Lst, ev_LstF, ev_Fz, ev_Str1C, ev_bind, ev_bindX, ev_out, ev_outX, ev_opt, ev_seq, so_nx, so_ret, so_exc, ev_skip, ev_ifS, ao_some, ev_asg, ev_gN, ev_nob, sn_no, sn_val, sn_own, ev_own, ev_par, ev_gTl0, ev_gTl1, ev_gT, ev_ret, ev_retF, ev_expr, ev_raise, ev_for, ev_iter, ev_iterA, ev_sl, ev_noP, ev_partC, dr_slot, sr_own, sr_bor, sr_ownD, dr_non, dr_bl, dr_int, dr_str, dr_tup, dr_lst, dr_ro, dr_dic, dr_raw, u_non, u_bl, u_int, u_str, u_tup, u_lst, u_ro, u_dic, u_raw, tr_bl, ixA_lst, ixA_ro, ixA_tup, ixA_str, gt_int, ge_int, lt_int, le_int, add_int, sub_int, int_int, eq_int, List.getElem?_cons_zero, List.getElem?_cons_succ, List.set_cons_zero, List.set_cons_succ, List.map_cons, List.map_nil, List.all_cons, List.all_nil, Bool.and_self, Bool.and_true, Bool.true_and, and_self, and_true, true_and, if_true, if_false, ite_true, ite_false, Option.bind_some, Bool.false_eq_true, decide_true, decide_false, Bool.not_true, Bool.not_false]
  · simp only [h, decide_false, ev_setix, sa_lst, sb_lst, ixN_j0, ixN_j1, ev_getR, sg_own, sg_bor, ev_putR, sp_own, sp_bor, so_some, ev_C, ev_V, sv_val, sv_own, sv_bor, ev_1, ev_2, ev_nil, ev_cons, ev_A, ev_If, ev_T, ev_Or, ev_And, ev_Not, ev_TOr, ev_TAnd, ev_TNot, ev_Tup, ev_Lst, ev_LstF, ev_Fz, ev_Str1C, ev_bind, ev_bindX, ev_out, ev_outX, ev_opt, ev_seq, so_nx, so_ret, so_exc, ev_skip, ev_ifS, ao_some, ev_asg, ev_gN, ev_nob, sn_no, sn_val, sn_own, ev_own, ev_par, ev_gTl0, ev_gTl1, ev_gT, ev_ret, ev_retF, ev_expr, ev_raise, ev_for, ev_iter, ev_iterA, ev_sl, ev_noP, ev_partC, dr_slot, sr_own, sr_bor, sr_ownD, dr_non, dr_bl, dr_int, dr_str, dr_tup, dr_lst, dr_ro, dr_dic, dr_raw, u_non, u_bl, u_int, u_str, u_tup, u_lst, u_ro, u_dic, u_raw, tr_bl, ixA_lst, ixA_ro, ixA_tup, ixA_str, gt_int, ge_int, lt_int, le_int, add_int, sub_int, int_int, eq_int, List.getElem?_cons_zero, List.getElem?_cons_succ, List.set_cons_zero, List.set_cons_succ, List.map_cons, List.map_nil, List.all_cons, List.all_nil, Bool.and_self, Bool.and_true, Bool.true_and, and_self, and_true, true_and, if_true, if_false, ite_true, ite_false, Option.bind_some, Bool.false_eq_true, decide_true, decide_false, Bool.not_true, Bool.not_false, Bool.false_and]
theorem is_text_call {l : List Nat} (hl : l.length ≤ 1000) : mCall 2 1 is_text_D [] (mCons (mV 0) mNil) [.val (.str (S l))] = .ok (.bl (l.all inR)) [.val (.str (S l))] := by
  refine call_val (ds := [.str (S l)]) (δ' := [.val (.str (S l)), .no]) rfl rfl rfl ?_ rfl
  show is_text_D [.val (.str (S l)), .no] = _
  have em : mLc [1] (mIter (mV 0)) (gN 1) mYes (mChain leD leD (mC (.str (S [32]))) (mV 1) (mC (.str (S [126])))) [.val (.str (S l)), .no] = .ok (.lst ((l.map fun k => D.str (S [k])).map inF)) [.val (.str (S l)), .no] := by
    refine lc_run (by simp only [ev_setix, sa_lst, sb_lst, ixN_j0, ixN_j1, ev_getR, sg_own, sg_bor, ev_putR, sp_own, sp_bor, so_some, ev_C, ev_V, sv_val, sv_own, sv_bor, ev_1, ev_2, ev_nil, ev_cons, ev_A, ev_If, ev_T, ev_Or, ev_And, ev_Not, ev_TOr, ev_TAnd, ev_TNot, ev_Tup, ev_Lst, ev_LstF, ev_Fz, ev_Str1C, ev_bind, ev_bindX, ev_out, ev_outX, ev_opt, ev_seq, so_nx, so_ret, so_exc, ev_skip, ev_ifS, ao_some, ev_asg, ev_gN, ev_nob, sn_no, sn_val, sn_own, ev_own, ev_par, ev_gTl0, ev_gTl1, ev_gT, ev_ret, ev_retF, ev_expr, ev_raise, ev_for, ev_iter, ev_iterA, ev_sl, ev_noP, ev_partC, dr_slot, sr_own, sr_bor, sr_ownD, dr_non, dr_bl, dr_int, dr_str, dr_tup, dr_lst, dr_ro, dr_dic, dr_raw, u_non, u_bl, u_int, u_str, u_tup, u_lst, u_ro, u_dic, u_raw, tr_bl, ixA_lst, ixA_ro, ixA_tup, ixA_str, gt_int, ge_int, lt_int, le_int, add_int, sub_int, int_int, eq_int, List.getElem?_cons_zero, List.getElem?_cons_succ, List.set_cons_zero, List.set_cons_succ, List.map_cons, List.map_nil, List.all_cons, List.all_nil, Bool.and_self, Bool.and_true, Bool.true_and, and_self, and_true, true_and, if_true, if_false, ite_true, ite_false, Option.bind_some, Bool.false_eq_true, decide_true, decide_false, Bool.not_true, Bool.not_false, iter_S]) rfl (fun x hx => ?_) (by rw [List.length_map]; omega)
    obtain ⟨k, _, rfl⟩ := mem_signs hx
    exact ⟨rfl, rfl, by rw [inF_S]; exact chain_in⟩
  simp only [is_text_D, ev_setix, sa_lst, sb_lst, ixN_j0, ixN_j1, ev_getR, sg_own, sg_bor, ev_putR, sp_own, sp_bor, so_some, ev_C, ev_V, sv_val, sv_own, sv_bor, ev_1, ev_2, ev_nil, ev_cons, ev_A, ev_If, ev_T, ev_Or, ev_And, ev_Not, ev_TOr, ev_TAnd, ev_TNot, ev_Tup, ev_Lst, ev_LstF, ev_Fz, ev_Str1C, ev_bind, ev_bindX, ev_out, ev_outX, ev_opt, ev_seq, so_nx, so_ret, so_exc, ev_skip, ev_ifS, ao_some, ev_asg, ev_gN, ev_nob, sn_no, sn_val, sn_own, ev_own, ev_par, ev_gTl0, ev_gTl1, ev_gT, ev_ret, ev_retF, ev_expr, ev_raise, ev_for, ev_iter, ev_iterA, ev_sl, ev_noP, ev_partC, dr_slot, sr_own, sr_bor, sr_ownD, dr_non, dr_bl, dr_int, dr_str, dr_tup, dr_lst, dr_ro, dr_dic, dr_raw, u_non, u_bl, u_int, u_str, u_tup, u_lst, u_ro, u_dic, u_raw, tr_bl, ixA_lst, ixA_ro, ixA_tup, ixA_str, gt_int, ge_int, lt_int, le_int, add_int, sub_int, int_int, eq_int, List.getElem?_cons_zero, List.getElem?_cons_succ, List.set_cons_zero, List.set_cons_succ, List.map_cons, List.map_nil, List.all_cons, List.all_nil, Bool.and_self, Bool.and_true, Bool.true_and, and_self, and_true, true_and, if_true, if_false, ite_true, ite_false, Option.bind_some, Bool.false_eq_true, decide_true, decide_false, Bool.not_true, Bool.not_false, isi_ss, str_sp, str_til, em, frz, all_in]
theorem is_text_no {d : D} (u : unslot1 d = true) (h : isiD [d, .raw (.ty "str")] = some (.bl false)) : mCall 2 1 is_text_D [] (mCons (mV 0) mNil) [.val d] = .ok (.bl false) [.val d] := by
  refine call_val (ds := [d]) (δ' := [.val d, .no]) rfl (by simp [u]) rfl ?_ rfl
  show is_text_D [.val d, .no] = _
  simp only [is_text_D, ev_setix, sa_lst, sb_lst, ixN_j0, ixN_j1, ev_getR, sg_own, sg_bor, ev_putR, sp_own, sp_bor, so_some, ev_C, ev_V, sv_val, sv_own, sv_bor, ev_1, ev_2, ev_nil, ev_cons, ev_A, ev_If, ev_T, ev_Or, ev_And, ev_Not, ev_TOr, ev_TAnd, ev_TNot, ev_Tup, ev_Lst, ev_LstF, ev_Fz, ev_Str1C, ev_bind, ev_bindX, ev_out, ev_outX, ev_opt, ev_seq, so_nx, so_ret, so_exc, ev_skip, ev_ifS, ao_some, ev_asg, ev_gN, ev_nob, sn_no, sn_val, sn_own, ev_own, ev_par, ev_gTl0, ev_gTl1, ev_gT, ev_ret, ev_retF, ev_expr, ev_raise, ev_for, ev_iter, ev_iterA, ev_sl, ev_noP, ev_partC, dr_slot, sr_own, sr_bor, sr_ownD, dr_non, dr_bl, dr_int, dr_str, dr_tup, dr_lst, dr_ro, dr_dic, dr_raw, u_non, u_bl, u_int, u_str, u_tup, u_lst, u_ro, u_dic, u_raw, tr_bl, ixA_lst, ixA_ro, ixA_tup, ixA_str, gt_int, ge_int, lt_int, le_int, add_int, sub_int, int_int, eq_int, List.getElem?_cons_zero, List.getElem?_cons_succ, List.set_cons_zero, List.set_cons_succ, List.map_cons, List.map_nil, List.all_cons, List.all_nil, Bool.and_self, Bool.and_true, Bool.true_and, and_self, and_true, true_and, if_true, if_false, ite_true, ite_false, Option.bind_some, Bool.false_eq_true, decide_true, decide_false, Bool.not_true, Bool.not_false, h, dr_uns u]
theorem is_int_call {d : D} {p q : Bool} (u : unslot1 d = true) (h : isiD [d, .raw (.ty "int")] = some (.bl p)) (h2 : isiD [d, .raw (.ty "bool")] = some (.bl q)) : mCall 1 1 is_integer_D [] (mCons (mV 0) mNil) [.val d] = .ok (.bl (p && !q)) [.val d] := by
  refine call_val (ds := [d]) (δ' := [.val d]) rfl (by simp [u]) rfl ?_ rfl
  show is_integer_D [.val d] = _
  cases p <;> simp only [is_integer_D, ev_setix, sa_lst, sb_lst, ixN_j0, ixN_j1, ev_getR, sg_own, sg_bor, ev_putR, sp_own, sp_bor, so_some, ev_C, ev_V, sv_val, sv_own, sv_bor, ev_1, ev_2, ev_nil, ev_cons, ev_A, ev_If, ev_T, ev_Or, ev_And, ev_Not, ev_TOr, ev_TAnd, ev_TNot, ev_Tup, ev_Lst, ev_LstF, ev_Fz, ev_Str1C, ev_bind, ev_bindX, ev_out, ev_outX, ev_opt, ev_seq, so_nx, so_ret, so_exc, ev_skip, ev_ifS, ao_some, ev_asg, ev_gN, ev_nob, sn_no, sn_val, sn_own, ev_own, ev_par, ev_gTl0, ev_gTl1, ev_gT, ev_ret, ev_retF, ev_expr, ev_raise, ev_for, ev_iter, ev_iterA, ev_sl, ev_noP, ev_partC, dr_slot, sr_own, sr_bor, sr_ownD, dr_non, dr_bl, dr_int, dr_str, dr_tup, dr_lst, dr_ro, dr_dic, dr_raw, u_non, u_bl, u_int, u_str, u_tup, u_lst, u_ro, u_dic, u_raw, tr_bl, ixA_lst, ixA_ro, ixA_tup, ixA_str, gt_int, ge_int, lt_int, le_int, add_int, sub_int, int_int, eq_int, List.getElem?_cons_zero, List.getElem?_cons_succ, List.set_cons_zero, List.set_cons_succ, List.map_cons, List.map_nil, List.all_cons, List.all_nil, Bool.and_self, Bool.and_true, Bool.true_and, and_self, and_true, true_and, if_true, if_false, ite_true, ite_false, Option.bind_some, Bool.false_eq_true, decide_true, decide_false, Bool.not_true, Bool.not_false, h, h2, dr_uns u, Bool.false_and]
/-- what is_value says -/
def IsVal (d : D) (k : Bool) : Prop := unslot1 d = true ∧ is_value_D [.val d] = .ret (.val (.bl k)) [.val d]
theorem isv_call {d : D} {k : Bool} (h : IsVal d k) : mCall 1 1 is_value_D [] (mCons (mV 0) mNil) [.val d] = .ok (.bl k) [.val d] :=
  call_val (ds := [d]) rfl (by simp [h.1]) rfl h.2 rfl
theorem isv_non : IsVal .non true := ⟨rfl, by simp only [is_value_D, ev_setix, sa_lst, sb_lst, ixN_j0, ixN_j1, ev_getR, sg_own, sg_bor, ev_putR, sp_own, sp_bor, so_some, ev_C, ev_V, sv_val, sv_own, sv_bor, ev_1, ev_2, ev_nil, ev_cons, ev_A, ev_If, ev_T, ev_Or, ev_And, ev_Not, ev_TOr, ev_TAnd, ev_TNot, ev_Tup, ev_Lst, ev_LstF, ev_Fz, ev_Str1C, ev_bind, ev_bindX, ev_out, ev_outX, ev_opt, ev_seq, so_nx, so_ret, so_exc, ev_skip, ev_ifS, ao_some, ev_asg, ev_gN, ev_nob, sn_no, sn_val, sn_own, ev_own, ev_par, ev_gTl0, ev_gTl1, ev_gT, ev_ret, ev_retF, ev_expr, ev_raise, ev_for, ev_iter, ev_iterA, ev_sl, ev_noP, ev_partC, dr_slot, sr_own, sr_bor, sr_ownD, dr_non, dr_bl, dr_int, dr_str, dr_tup, dr_lst, dr_ro, dr_dic, dr_raw, u_non, u_bl, u_int, u_str, u_tup, u_lst, u_ro, u_dic, u_raw, tr_bl, ixA_lst, ixA_ro, ixA_tup, ixA_str, gt_int, ge_int, lt_int, le_int, add_int, sub_int, int_int, eq_int, List.getElem?_cons_zero, List.getElem?_cons_succ, List.set_cons_zero, List.set_cons_succ, List.map_cons, List.map_nil, List.all_cons, List.all_nil, Bool.and_self, Bool.and_true, Bool.true_and, and_self, and_true, true_and, if_true, if_false, ite_true, ite_false, Option.bind_some, Bool.false_eq_true, decide_true, decide_false, Bool.not_true, Bool.not_false, is_nn]⟩
theorem isv_bl (k : Bool) : IsVal (.bl k) true := ⟨rfl, by simp only [is_value_D, ev_setix, sa_lst, sb_lst, ixN_j0, ixN_j1, ev_getR, sg_own, sg_bor, ev_putR, sp_own, sp_bor, so_some, ev_C, ev_V, sv_val, sv_own, sv_bor, ev_1, ev_2, ev_nil, ev_cons, ev_A, ev_If, ev_T, ev_Or, ev_And, ev_Not, ev_TOr, ev_TAnd, ev_TNot, ev_Tup, ev_Lst, ev_LstF, ev_Fz, ev_Str1C, ev_bind, ev_bindX, ev_out, ev_outX, ev_opt, ev_seq, so_nx, so_ret, so_exc, ev_skip, ev_ifS, ao_some, ev_asg, ev_gN, ev_nob, sn_no, sn_val, sn_own, ev_own, ev_par, ev_gTl0, ev_gTl1, ev_gT, ev_ret, ev_retF, ev_expr, ev_raise, ev_for, ev_iter, ev_iterA, ev_sl, ev_noP, ev_partC, dr_slot, sr_own, sr_bor, sr_ownD, dr_non, dr_bl, dr_int, dr_str, dr_tup, dr_lst, dr_ro, dr_dic, dr_raw, u_non, u_bl, u_int, u_str, u_tup, u_lst, u_ro, u_dic, u_raw, tr_bl, ixA_lst, ixA_ro, ixA_tup, ixA_str, gt_int, ge_int, lt_int, le_int, add_int, sub_int, int_int, eq_int, List.getElem?_cons_zero, List.getElem?_cons_succ, List.set_cons_zero, List.set_cons_succ, List.map_cons, List.map_nil, List.all_cons, List.all_nil, Bool.and_self, Bool.and_true, Bool.true_and, and_self, and_true, true_and, if_true, if_false, ite_true, ite_false, Option.bind_some, Bool.false_eq_true, decide_true, decide_false, Bool.not_true, Bool.not_false, is_bn, isi_bb]⟩
theorem isv_int (i : Int) : IsVal (.int i) (decide (((i.natAbs : Nat) : Int) ≤ 999999999999999999999999999999)) := ⟨rfl, by
  have e := is_int_call (d := .int i) rfl isi_ii isi_ib
  simp only [is_value_D, ev_setix, sa_lst, sb_lst, ixN_j0, ixN_j1, ev_getR, sg_own, sg_bor, ev_putR, sp_own, sp_bor, so_some, ev_C, ev_V, sv_val, sv_own, sv_bor, ev_1, ev_2, ev_nil, ev_cons, ev_A, ev_If, ev_T, ev_Or, ev_And, ev_Not, ev_TOr, ev_TAnd, ev_TNot, ev_Tup, ev_Lst, ev_LstF, ev_Fz, ev_Str1C, ev_bind, ev_bindX, ev_out, ev_outX, ev_opt, ev_seq, so_nx, so_ret, so_exc, ev_skip, ev_ifS, ao_some, ev_asg, ev_gN, ev_nob, sn_no, sn_val, sn_own, ev_own, ev_par, ev_gTl0, ev_gTl1, ev_gT, ev_ret, ev_retF, ev_expr, ev_raise, ev_for, ev_iter, ev_iterA, ev_sl, ev_noP, ev_partC, dr_slot, sr_own, sr_bor, sr_ownD, dr_non, dr_bl, dr_int, dr_str, dr_tup, dr_lst, dr_ro, dr_dic, dr_raw, u_non, u_bl, u_int, u_str, u_tup, u_lst, u_ro, u_dic, u_raw, tr_bl, ixA_lst, ixA_ro, ixA_tup, ixA_str, gt_int, ge_int, lt_int, le_int, add_int, sub_int, int_int, eq_int, List.getElem?_cons_zero, List.getElem?_cons_succ, List.set_cons_zero, List.set_cons_succ, List.map_cons, List.map_nil, List.all_cons, List.all_nil, Bool.and_self, Bool.and_true, Bool.true_and, and_self, and_true, true_and, if_true, if_false, ite_true, ite_false, Option.bind_some, Bool.false_eq_true, decide_true, decide_false, Bool.not_true, Bool.not_false, is_in, isi_ib, e, abs_int]⟩
theorem isv_str (l : List Nat) (hl : l.length ≤ 1000) : IsVal (.str (S l)) (l.all inR && decide (l.length ≤ 200)) := ⟨rfl, by
  have e := is_int_call (d := .str (S l)) rfl isi_si isi_sb
  have e2 := is_text_call hl
  have e3 := len_S l (by omega)
  cases hq : l.all inR with
  | false => rw [hq] at e2; simp only [is_value_D, ev_setix, sa_lst, sb_lst, ixN_j0, ixN_j1, ev_getR, sg_own, sg_bor, ev_putR, sp_own, sp_bor, so_some, ev_C, ev_V, sv_val, sv_own, sv_bor, ev_1, ev_2, ev_nil, ev_cons, ev_A, ev_If, ev_T, ev_Or, ev_And, ev_Not, ev_TOr, ev_TAnd, ev_TNot, ev_Tup, ev_Lst, ev_LstF, ev_Fz, ev_Str1C, ev_bind, ev_bindX, ev_out, ev_outX, ev_opt, ev_seq, so_nx, so_ret, so_exc, ev_skip, ev_ifS, ao_some, ev_asg, ev_gN, ev_nob, sn_no, sn_val, sn_own, ev_own, ev_par, ev_gTl0, ev_gTl1, ev_gT, ev_ret, ev_retF, ev_expr, ev_raise, ev_for, ev_iter, ev_iterA, ev_sl, ev_noP, ev_partC, dr_slot, sr_own, sr_bor, sr_ownD, dr_non, dr_bl, dr_int, dr_str, dr_tup, dr_lst, dr_ro, dr_dic, dr_raw, u_non, u_bl, u_int, u_str, u_tup, u_lst, u_ro, u_dic, u_raw, tr_bl, ixA_lst, ixA_ro, ixA_tup, ixA_str, gt_int, ge_int, lt_int, le_int, add_int, sub_int, int_int, eq_int, List.getElem?_cons_zero, List.getElem?_cons_succ, List.set_cons_zero, List.set_cons_succ, List.map_cons, List.map_nil, List.all_cons, List.all_nil, Bool.and_self, Bool.and_true, Bool.true_and, and_self, and_true, true_and, if_true, if_false, ite_true, ite_false, Option.bind_some, Bool.false_eq_true, decide_true, decide_false, Bool.not_true, Bool.not_false, is_sn, isi_sb, e, e2, Bool.false_and]
  | true =>
    rw [hq] at e2
    simp only [is_value_D, ev_setix, sa_lst, sb_lst, ixN_j0, ixN_j1, ev_getR, sg_own, sg_bor, ev_putR, sp_own, sp_bor, so_some, ev_C, ev_V, sv_val, sv_own, sv_bor, ev_1, ev_2, ev_nil, ev_cons, ev_A, ev_If, ev_T, ev_Or, ev_And, ev_Not, ev_TOr, ev_TAnd, ev_TNot, ev_Tup, ev_Lst, ev_LstF, ev_Fz, ev_Str1C, ev_bind, ev_bindX, ev_out, ev_outX, ev_opt, ev_seq, so_nx, so_ret, so_exc, ev_skip, ev_ifS, ao_some, ev_asg, ev_gN, ev_nob, sn_no, sn_val, sn_own, ev_own, ev_par, ev_gTl0, ev_gTl1, ev_gT, ev_ret, ev_retF, ev_expr, ev_raise, ev_for, ev_iter, ev_iterA, ev_sl, ev_noP, ev_partC, dr_slot, sr_own, sr_bor, sr_ownD, dr_non, dr_bl, dr_int, dr_str, dr_tup, dr_lst, dr_ro, dr_dic, dr_raw, u_non, u_bl, u_int, u_str, u_tup, u_lst, u_ro, u_dic, u_raw, tr_bl, ixA_lst, ixA_ro, ixA_tup, ixA_str, gt_int, ge_int, lt_int, le_int, add_int, sub_int, int_int, eq_int, List.getElem?_cons_zero, List.getElem?_cons_succ, List.set_cons_zero, List.set_cons_succ, List.map_cons, List.map_nil, List.all_cons, List.all_nil, Bool.and_self, Bool.and_true, Bool.true_and, and_self, and_true, true_and, if_true, if_false, ite_true, ite_false, Option.bind_some, Bool.false_eq_true, decide_true, decide_false, Bool.not_true, Bool.not_false, is_sn, isi_sb, e, e2, e3, Bool.false_and]
    simp
    omega⟩
theorem isv_lst (ds : List D) : IsVal (.lst ds) false := ⟨rfl, by
  have e := is_int_call (d := .lst ds) rfl isi_li isi_lb
  have e2 := is_text_no (d := .lst ds) rfl isi_ls
  simp only [is_value_D, ev_setix, sa_lst, sb_lst, ixN_j0, ixN_j1, ev_getR, sg_own, sg_bor, ev_putR, sp_own, sp_bor, so_some, ev_C, ev_V, sv_val, sv_own, sv_bor, ev_1, ev_2, ev_nil, ev_cons, ev_A, ev_If, ev_T, ev_Or, ev_And, ev_Not, ev_TOr, ev_TAnd, ev_TNot, ev_Tup, ev_Lst, ev_LstF, ev_Fz, ev_Str1C, ev_bind, ev_bindX, ev_out, ev_outX, ev_opt, ev_seq, so_nx, so_ret, so_exc, ev_skip, ev_ifS, ao_some, ev_asg, ev_gN, ev_nob, sn_no, sn_val, sn_own, ev_own, ev_par, ev_gTl0, ev_gTl1, ev_gT, ev_ret, ev_retF, ev_expr, ev_raise, ev_for, ev_iter, ev_iterA, ev_sl, ev_noP, ev_partC, dr_slot, sr_own, sr_bor, sr_ownD, dr_non, dr_bl, dr_int, dr_str, dr_tup, dr_lst, dr_ro, dr_dic, dr_raw, u_non, u_bl, u_int, u_str, u_tup, u_lst, u_ro, u_dic, u_raw, tr_bl, ixA_lst, ixA_ro, ixA_tup, ixA_str, gt_int, ge_int, lt_int, le_int, add_int, sub_int, int_int, eq_int, List.getElem?_cons_zero, List.getElem?_cons_succ, List.set_cons_zero, List.set_cons_succ, List.map_cons, List.map_nil, List.all_cons, List.all_nil, Bool.and_self, Bool.and_true, Bool.true_and, and_self, and_true, true_and, if_true, if_false, ite_true, ite_false, Option.bind_some, Bool.false_eq_true, decide_true, decide_false, Bool.not_true, Bool.not_false, is_ln, isi_lb, e, e2, Bool.false_and]⟩
theorem isv_tup (ds : List D) : IsVal (.tup ds) false := ⟨rfl, by
  have e := is_int_call (d := .tup ds) rfl isi_ti isi_tb
  have e2 := is_text_no (d := .tup ds) rfl isi_ts
  simp only [is_value_D, ev_setix, sa_lst, sb_lst, ixN_j0, ixN_j1, ev_getR, sg_own, sg_bor, ev_putR, sp_own, sp_bor, so_some, ev_C, ev_V, sv_val, sv_own, sv_bor, ev_1, ev_2, ev_nil, ev_cons, ev_A, ev_If, ev_T, ev_Or, ev_And, ev_Not, ev_TOr, ev_TAnd, ev_TNot, ev_Tup, ev_Lst, ev_LstF, ev_Fz, ev_Str1C, ev_bind, ev_bindX, ev_out, ev_outX, ev_opt, ev_seq, so_nx, so_ret, so_exc, ev_skip, ev_ifS, ao_some, ev_asg, ev_gN, ev_nob, sn_no, sn_val, sn_own, ev_own, ev_par, ev_gTl0, ev_gTl1, ev_gT, ev_ret, ev_retF, ev_expr, ev_raise, ev_for, ev_iter, ev_iterA, ev_sl, ev_noP, ev_partC, dr_slot, sr_own, sr_bor, sr_ownD, dr_non, dr_bl, dr_int, dr_str, dr_tup, dr_lst, dr_ro, dr_dic, dr_raw, u_non, u_bl, u_int, u_str, u_tup, u_lst, u_ro, u_dic, u_raw, tr_bl, ixA_lst, ixA_ro, ixA_tup, ixA_str, gt_int, ge_int, lt_int, le_int, add_int, sub_int, int_int, eq_int, List.getElem?_cons_zero, List.getElem?_cons_succ, List.set_cons_zero, List.set_cons_succ, List.map_cons, List.map_nil, List.all_cons, List.all_nil, Bool.and_self, Bool.and_true, Bool.true_and, and_self, and_true, true_and, if_true, if_false, ite_true, ite_false, Option.bind_some, Bool.false_eq_true, decide_true, decide_false, Bool.not_true, Bool.not_false, is_tn, isi_tb, e, e2, Bool.false_and]⟩
theorem str_0 : ("0" : PySem.Str) = S [48] := by decide +kernel
theorem str_1 : ("1" : PySem.Str) = S [49] := by decide +kernel
theorem str_2 : ("2" : PySem.Str) = S [50] := by decide +kernel
def Code (d : D) (z : List Nat) : Prop := unslot1 d = true ∧ (∃ δ1, code_of_D [.val d] = .ret (.val (.str (S z))) δ1) ∧ (∀ k ∈ z, k < 1114112) ∧ ∃ δ2, _law_code_D [.val d, .no, .no, .no, .no] = .ret (.val (.str (S z))) δ2
theorem code_non : Code .non [48] := ⟨rfl, ⟨[.val .non], by simp only [code_of_D, ev_setix, sa_lst, sb_lst, ixN_j0, ixN_j1, ev_getR, sg_own, sg_bor, ev_putR, sp_own, sp_bor, so_some, ev_C, ev_V, sv_val, sv_own, sv_bor, ev_1, ev_2, ev_nil, ev_cons, ev_A, ev_If, ev_T, ev_Or, ev_And, ev_Not, ev_TOr, ev_TAnd, ev_TNot, ev_Tup, ev_Lst, ev_LstF, ev_Fz, ev_Str1C, ev_bind, ev_bindX, ev_out, ev_outX, ev_opt, ev_seq, so_nx, so_ret, so_exc, ev_skip, ev_ifS, ao_some, ev_asg, ev_gN, ev_nob, sn_no, sn_val, sn_own, ev_own, ev_par, ev_gTl0, ev_gTl1, ev_gT, ev_ret, ev_retF, ev_expr, ev_raise, ev_for, ev_iter, ev_iterA, ev_sl, ev_noP, ev_partC, dr_slot, sr_own, sr_bor, sr_ownD, dr_non, dr_bl, dr_int, dr_str, dr_tup, dr_lst, dr_ro, dr_dic, dr_raw, u_non, u_bl, u_int, u_str, u_tup, u_lst, u_ro, u_dic, u_raw, tr_bl, ixA_lst, ixA_ro, ixA_tup, ixA_str, gt_int, ge_int, lt_int, le_int, add_int, sub_int, int_int, eq_int, List.getElem?_cons_zero, List.getElem?_cons_succ, List.set_cons_zero, List.set_cons_succ, List.map_cons, List.map_nil, List.all_cons, List.all_nil, Bool.and_self, Bool.and_true, Bool.true_and, and_self, and_true, true_and, if_true, if_false, ite_true, ite_false, Option.bind_some, Bool.false_eq_true, decide_true, decide_false, Bool.not_true, Bool.not_false, is_nn, str_0]⟩, by decide, ⟨[.val .non, .no, .no, .no, .no], by simp only [_law_code_D, ev_setix, sa_lst, sb_lst, ixN_j0, ixN_j1, ev_getR, sg_own, sg_bor, ev_putR, sp_own, sp_bor, so_some, ev_C, ev_V, sv_val, sv_own, sv_bor, ev_1, ev_2, ev_nil, ev_cons, ev_A, ev_If, ev_T, ev_Or, ev_And, ev_Not, ev_TOr, ev_TAnd, ev_TNot, ev_Tup, ev_Lst, ev_LstF, ev_Fz, ev_Str1C, ev_bind, ev_bindX, ev_out, ev_outX, ev_opt, ev_seq, so_nx, so_ret, so_exc, ev_skip, ev_ifS, ao_some, ev_asg, ev_gN, ev_nob, sn_no, sn_val, sn_own, ev_own, ev_par, ev_gTl0, ev_gTl1, ev_gT, ev_ret, ev_retF, ev_expr, ev_raise, ev_for, ev_iter, ev_iterA, ev_sl, ev_noP, ev_partC, dr_slot, sr_own, sr_bor, sr_ownD, dr_non, dr_bl, dr_int, dr_str, dr_tup, dr_lst, dr_ro, dr_dic, dr_raw, u_non, u_bl, u_int, u_str, u_tup, u_lst, u_ro, u_dic, u_raw, tr_bl, ixA_lst, ixA_ro, ixA_tup, ixA_str, gt_int, ge_int, lt_int, le_int, add_int, sub_int, int_int, eq_int, List.getElem?_cons_zero, List.getElem?_cons_succ, List.set_cons_zero, List.set_cons_succ, List.map_cons, List.map_nil, List.all_cons, List.all_nil, Bool.and_self, Bool.and_true, Bool.true_and, and_self, and_true, true_and, if_true, if_false, ite_true, ite_false, Option.bind_some, Bool.false_eq_true, decide_true, decide_false, Bool.not_true, Bool.not_false, is_nn, str_0]⟩⟩
theorem str_n1 : strD [.int 1] = some (.str (S [49])) := str_nat (n := 1) (by decide)
theorem str_n2 : strD [.int 2] = some (.str (S [50])) := str_nat (n := 2) (by decide)
theorem int_bl (k : Bool) : intD [.bl k] = some (.int (if k then 1 else 0)) := rfl
theorem code_bl (k : Bool) : ∃ z, Code (.bl k) z := by
  have hl : (2 : Nat) ≤ sizeLine := szL.2.1
  cases k with
  | false =>
    refine ⟨[49], rfl, ⟨[.val (.bl false)], ?_⟩, by decide, ⟨[.val (.bl false), .no, .no, .no, .no], ?_⟩⟩
    · simp only [code_of_D, ev_setix, sa_lst, sb_lst, ixN_j0, ixN_j1, ev_getR, sg_own, sg_bor, ev_putR, sp_own, sp_bor, so_some, ev_C, ev_V, sv_val, sv_own, sv_bor, ev_1, ev_2, ev_nil, ev_cons, ev_A, ev_If, ev_T, ev_Or, ev_And, ev_Not, ev_TOr, ev_TAnd, ev_TNot, ev_Tup, ev_Lst, ev_LstF, ev_Fz, ev_Str1C, ev_bind, ev_bindX, ev_out, ev_outX, ev_opt, ev_seq, so_nx, so_ret, so_exc, ev_skip, ev_ifS, ao_some, ev_asg, ev_gN, ev_nob, sn_no, sn_val, sn_own, ev_own, ev_par, ev_gTl0, ev_gTl1, ev_gT, ev_ret, ev_retF, ev_expr, ev_raise, ev_for, ev_iter, ev_iterA, ev_sl, ev_noP, ev_partC, dr_slot, sr_own, sr_bor, sr_ownD, dr_non, dr_bl, dr_int, dr_str, dr_tup, dr_lst, dr_ro, dr_dic, dr_raw, u_non, u_bl, u_int, u_str, u_tup, u_lst, u_ro, u_dic, u_raw, tr_bl, ixA_lst, ixA_ro, ixA_tup, ixA_str, gt_int, ge_int, lt_int, le_int, add_int, sub_int, int_int, eq_int, List.getElem?_cons_zero, List.getElem?_cons_succ, List.set_cons_zero, List.set_cons_succ, List.map_cons, List.map_nil, List.all_cons, List.all_nil, Bool.and_self, Bool.and_true, Bool.true_and, and_self, and_true, true_and, if_true, if_false, ite_true, ite_false, Option.bind_some, Bool.false_eq_true, decide_true, decide_false, Bool.not_true, Bool.not_false, is_bn, is_bb, int_bl, Int.reduceAdd, str_n1]
    · simp only [_law_code_D, ev_setix, sa_lst, sb_lst, ixN_j0, ixN_j1, ev_getR, sg_own, sg_bor, ev_putR, sp_own, sp_bor, so_some, ev_C, ev_V, sv_val, sv_own, sv_bor, ev_1, ev_2, ev_nil, ev_cons, ev_A, ev_If, ev_T, ev_Or, ev_And, ev_Not, ev_TOr, ev_TAnd, ev_TNot, ev_Tup, ev_Lst, ev_LstF, ev_Fz, ev_Str1C, ev_bind, ev_bindX, ev_out, ev_outX, ev_opt, ev_seq, so_nx, so_ret, so_exc, ev_skip, ev_ifS, ao_some, ev_asg, ev_gN, ev_nob, sn_no, sn_val, sn_own, ev_own, ev_par, ev_gTl0, ev_gTl1, ev_gT, ev_ret, ev_retF, ev_expr, ev_raise, ev_for, ev_iter, ev_iterA, ev_sl, ev_noP, ev_partC, dr_slot, sr_own, sr_bor, sr_ownD, dr_non, dr_bl, dr_int, dr_str, dr_tup, dr_lst, dr_ro, dr_dic, dr_raw, u_non, u_bl, u_int, u_str, u_tup, u_lst, u_ro, u_dic, u_raw, tr_bl, ixA_lst, ixA_ro, ixA_tup, ixA_str, gt_int, ge_int, lt_int, le_int, add_int, sub_int, int_int, eq_int, List.getElem?_cons_zero, List.getElem?_cons_succ, List.set_cons_zero, List.set_cons_succ, List.map_cons, List.map_nil, List.all_cons, List.all_nil, Bool.and_self, Bool.and_true, Bool.true_and, and_self, and_true, true_and, if_true, if_false, ite_true, ite_false, Option.bind_some, Bool.false_eq_true, decide_true, decide_false, Bool.not_true, Bool.not_false, is_bn, is_bb, int_bl, str_1, str_2, List.length_cons, List.length_nil, Nat.reduceAdd, hl, ix2_0]
  | true =>
    refine ⟨[50], rfl, ⟨[.val (.bl true)], ?_⟩, by decide, ⟨[.val (.bl true), .no, .no, .no, .no], ?_⟩⟩
    · simp only [code_of_D, ev_setix, sa_lst, sb_lst, ixN_j0, ixN_j1, ev_getR, sg_own, sg_bor, ev_putR, sp_own, sp_bor, so_some, ev_C, ev_V, sv_val, sv_own, sv_bor, ev_1, ev_2, ev_nil, ev_cons, ev_A, ev_If, ev_T, ev_Or, ev_And, ev_Not, ev_TOr, ev_TAnd, ev_TNot, ev_Tup, ev_Lst, ev_LstF, ev_Fz, ev_Str1C, ev_bind, ev_bindX, ev_out, ev_outX, ev_opt, ev_seq, so_nx, so_ret, so_exc, ev_skip, ev_ifS, ao_some, ev_asg, ev_gN, ev_nob, sn_no, sn_val, sn_own, ev_own, ev_par, ev_gTl0, ev_gTl1, ev_gT, ev_ret, ev_retF, ev_expr, ev_raise, ev_for, ev_iter, ev_iterA, ev_sl, ev_noP, ev_partC, dr_slot, sr_own, sr_bor, sr_ownD, dr_non, dr_bl, dr_int, dr_str, dr_tup, dr_lst, dr_ro, dr_dic, dr_raw, u_non, u_bl, u_int, u_str, u_tup, u_lst, u_ro, u_dic, u_raw, tr_bl, ixA_lst, ixA_ro, ixA_tup, ixA_str, gt_int, ge_int, lt_int, le_int, add_int, sub_int, int_int, eq_int, List.getElem?_cons_zero, List.getElem?_cons_succ, List.set_cons_zero, List.set_cons_succ, List.map_cons, List.map_nil, List.all_cons, List.all_nil, Bool.and_self, Bool.and_true, Bool.true_and, and_self, and_true, true_and, if_true, if_false, ite_true, ite_false, Option.bind_some, Bool.false_eq_true, decide_true, decide_false, Bool.not_true, Bool.not_false, is_bn, is_bb, int_bl, Int.reduceAdd, str_n2, Bool.true_eq_false, Bool.false_eq_true]
    · simp only [_law_code_D, ev_setix, sa_lst, sb_lst, ixN_j0, ixN_j1, ev_getR, sg_own, sg_bor, ev_putR, sp_own, sp_bor, so_some, ev_C, ev_V, sv_val, sv_own, sv_bor, ev_1, ev_2, ev_nil, ev_cons, ev_A, ev_If, ev_T, ev_Or, ev_And, ev_Not, ev_TOr, ev_TAnd, ev_TNot, ev_Tup, ev_Lst, ev_LstF, ev_Fz, ev_Str1C, ev_bind, ev_bindX, ev_out, ev_outX, ev_opt, ev_seq, so_nx, so_ret, so_exc, ev_skip, ev_ifS, ao_some, ev_asg, ev_gN, ev_nob, sn_no, sn_val, sn_own, ev_own, ev_par, ev_gTl0, ev_gTl1, ev_gT, ev_ret, ev_retF, ev_expr, ev_raise, ev_for, ev_iter, ev_iterA, ev_sl, ev_noP, ev_partC, dr_slot, sr_own, sr_bor, sr_ownD, dr_non, dr_bl, dr_int, dr_str, dr_tup, dr_lst, dr_ro, dr_dic, dr_raw, u_non, u_bl, u_int, u_str, u_tup, u_lst, u_ro, u_dic, u_raw, tr_bl, ixA_lst, ixA_ro, ixA_tup, ixA_str, gt_int, ge_int, lt_int, le_int, add_int, sub_int, int_int, eq_int, List.getElem?_cons_zero, List.getElem?_cons_succ, List.set_cons_zero, List.set_cons_succ, List.map_cons, List.map_nil, List.all_cons, List.all_nil, Bool.and_self, Bool.and_true, Bool.true_and, and_self, and_true, true_and, if_true, if_false, ite_true, ite_false, Option.bind_some, Bool.false_eq_true, decide_true, decide_false, Bool.not_true, Bool.not_false, is_bn, is_bb, int_bl, str_1, str_2, List.length_cons, List.length_nil, Nat.reduceAdd, hl, ix1, Bool.true_eq_false, Bool.false_eq_true]
theorem code_int {i : Int} (h1 : -1000000000000000000000000000000 < i) (h2 : i < 1000000000000000000000000000000) : ∃ z, Code (.int i) z := by
  obtain ⟨z, δ1, δ2, e0, e1, e2⟩ := number_both h1 h2
  have e := call_val (m := 3) (np := 1) (body := number_code_D) (ms := mCons (mV 0) mNil) (δ := [.val (.int i)]) (ds := [.int i]) rfl rfl rfl e1 rfl
  exact ⟨z, rfl, ⟨[.val (.int i)], by simp only [code_of_D, ev_setix, sa_lst, sb_lst, ixN_j0, ixN_j1, ev_getR, sg_own, sg_bor, ev_putR, sp_own, sp_bor, so_some, ev_C, ev_V, sv_val, sv_own, sv_bor, ev_1, ev_2, ev_nil, ev_cons, ev_A, ev_If, ev_T, ev_Or, ev_And, ev_Not, ev_TOr, ev_TAnd, ev_TNot, ev_Tup, ev_Lst, ev_LstF, ev_Fz, ev_Str1C, ev_bind, ev_bindX, ev_out, ev_outX, ev_opt, ev_seq, so_nx, so_ret, so_exc, ev_skip, ev_ifS, ao_some, ev_asg, ev_gN, ev_nob, sn_no, sn_val, sn_own, ev_own, ev_par, ev_gTl0, ev_gTl1, ev_gT, ev_ret, ev_retF, ev_expr, ev_raise, ev_for, ev_iter, ev_iterA, ev_sl, ev_noP, ev_partC, dr_slot, sr_own, sr_bor, sr_ownD, dr_non, dr_bl, dr_int, dr_str, dr_tup, dr_lst, dr_ro, dr_dic, dr_raw, u_non, u_bl, u_int, u_str, u_tup, u_lst, u_ro, u_dic, u_raw, tr_bl, ixA_lst, ixA_ro, ixA_tup, ixA_str, gt_int, ge_int, lt_int, le_int, add_int, sub_int, int_int, eq_int, List.getElem?_cons_zero, List.getElem?_cons_succ, List.set_cons_zero, List.set_cons_succ, List.map_cons, List.map_nil, List.all_cons, List.all_nil, Bool.and_self, Bool.and_true, Bool.true_and, and_self, and_true, true_and, if_true, if_false, ite_true, ite_false, Option.bind_some, Bool.false_eq_true, decide_true, decide_false, Bool.not_true, Bool.not_false, is_in, is_ib, isi_is, e]⟩, e0, ⟨δ2, e2⟩⟩
theorem code_str {l : List Nat} (hl : l.length ≤ 1000) (hin : ∀ k ∈ l, 32 ≤ k ∧ k ≤ 126) : ∃ z, Code (.str (S l)) z := by
  have hk := tks_len l
  obtain ⟨δ1, e1⟩ := text_code_body hl
  have e := call_val (m := 3) (np := 1) (body := text_code_D) (ms := mCons (mV 0) mNil) (δ := [.val (.str (S l))]) (ds := [.str (S l)]) rfl rfl rfl e1 rfl
  have ej := join_nil (l.map tk) (by omega)
  have f1 := add_S [116] ((l.map tk).flatten ++ [32]) (by rw [List.length_append]; show 1 + (_ + 1) ≤ _; omega)
  have f2 := add_S [116] (l.map tk).flatten (by show 1 + _ ≤ _; omega)
  have f3 := add_S ([116] ++ (l.map tk).flatten) [32] (by rw [List.length_append]; show 1 + _ + 1 ≤ _; omega)
  have em : mLc [3] (mIter (mV 0)) (gN 3) mYes (mGet2 (mFz (mDisp [((mC (.str (" " : PySem.Str))), (mC (.str ("!a" : PySem.Str)))), ((mC (.str ("!" : PySem.Str))), (mC (.str ("!b" : PySem.Str))))])) (mV 3) (mV 3)) [.val (.str (S l)), .val (.str (S cntL)), .no, .no, .no] = .ok (.lst ((l.map tk).map fun m => D.str (S m))) [.val (.str (S l)), .val (.str (S cntL)), .no, .no, .no] := by
    rw [← tkF_map]
    refine lc_run (by simp only [ev_setix, sa_lst, sb_lst, ixN_j0, ixN_j1, ev_getR, sg_own, sg_bor, ev_putR, sp_own, sp_bor, so_some, ev_C, ev_V, sv_val, sv_own, sv_bor, ev_1, ev_2, ev_nil, ev_cons, ev_A, ev_If, ev_T, ev_Or, ev_And, ev_Not, ev_TOr, ev_TAnd, ev_TNot, ev_Tup, ev_Lst, ev_LstF, ev_Fz, ev_Str1C, ev_bind, ev_bindX, ev_out, ev_outX, ev_opt, ev_seq, so_nx, so_ret, so_exc, ev_skip, ev_ifS, ao_some, ev_asg, ev_gN, ev_nob, sn_no, sn_val, sn_own, ev_own, ev_par, ev_gTl0, ev_gTl1, ev_gT, ev_ret, ev_retF, ev_expr, ev_raise, ev_for, ev_iter, ev_iterA, ev_sl, ev_noP, ev_partC, dr_slot, sr_own, sr_bor, sr_ownD, dr_non, dr_bl, dr_int, dr_str, dr_tup, dr_lst, dr_ro, dr_dic, dr_raw, u_non, u_bl, u_int, u_str, u_tup, u_lst, u_ro, u_dic, u_raw, tr_bl, ixA_lst, ixA_ro, ixA_tup, ixA_str, gt_int, ge_int, lt_int, le_int, add_int, sub_int, int_int, eq_int, List.getElem?_cons_zero, List.getElem?_cons_succ, List.set_cons_zero, List.set_cons_succ, List.map_cons, List.map_nil, List.all_cons, List.all_nil, Bool.and_self, Bool.and_true, Bool.true_and, and_self, and_true, true_and, if_true, if_false, ite_true, ite_false, Option.bind_some, Bool.false_eq_true, decide_true, decide_false, Bool.not_true, Bool.not_false, iter_S]) rfl (fun x hx => ?_) (by rw [List.length_map]; omega)
    obtain ⟨k, _, rfl⟩ := mem_signs hx
    refine ⟨rfl, rfl, ?_⟩
    rw [tkF_S, ← tk_get]
    exact get2_dic dispB_ok rfl rfl rfl
  refine ⟨[116] ++ (l.map tk).flatten ++ [32], rfl, ⟨[.val (.str (S l))], ?_⟩, ?_, ⟨[.val (.str (S l)), .val (.str (S cntL)), .no, .no, .no], ?_⟩⟩
  rotate_left
  · intro k hk
    rcases List.mem_append.mp hk with hk | hk
    · rcases List.mem_append.mp hk with hk | hk
      · rw [List.mem_singleton.mp hk]; decide
      · obtain ⟨m, hm, hk⟩ := List.mem_flatten.mp hk
        obtain ⟨j, hj, rfl⟩ := List.mem_map.mp hm
        have := hin j hj
        unfold tk at hk
        split at hk
        · have : ∀ k ∈ [33, 97], k < 1114112 := by decide
          exact this k hk
        · split at hk
          · have : ∀ k ∈ [33, 98], k < 1114112 := by decide
            exact this k hk
          · rw [List.mem_singleton.mp hk]; omega
    · rw [List.mem_singleton.mp hk]; decide
  rotate_left
  · simp only [code_of_D, ev_setix, sa_lst, sb_lst, ixN_j0, ixN_j1, ev_getR, sg_own, sg_bor, ev_putR, sp_own, sp_bor, so_some, ev_C, ev_V, sv_val, sv_own, sv_bor, ev_1, ev_2, ev_nil, ev_cons, ev_A, ev_If, ev_T, ev_Or, ev_And, ev_Not, ev_TOr, ev_TAnd, ev_TNot, ev_Tup, ev_Lst, ev_LstF, ev_Fz, ev_Str1C, ev_bind, ev_bindX, ev_out, ev_outX, ev_opt, ev_seq, so_nx, so_ret, so_exc, ev_skip, ev_ifS, ao_some, ev_asg, ev_gN, ev_nob, sn_no, sn_val, sn_own, ev_own, ev_par, ev_gTl0, ev_gTl1, ev_gT, ev_ret, ev_retF, ev_expr, ev_raise, ev_for, ev_iter, ev_iterA, ev_sl, ev_noP, ev_partC, dr_slot, sr_own, sr_bor, sr_ownD, dr_non, dr_bl, dr_int, dr_str, dr_tup, dr_lst, dr_ro, dr_dic, dr_raw, u_non, u_bl, u_int, u_str, u_tup, u_lst, u_ro, u_dic, u_raw, tr_bl, ixA_lst, ixA_ro, ixA_tup, ixA_str, gt_int, ge_int, lt_int, le_int, add_int, sub_int, int_int, eq_int, List.getElem?_cons_zero, List.getElem?_cons_succ, List.set_cons_zero, List.set_cons_succ, List.map_cons, List.map_nil, List.all_cons, List.all_nil, Bool.and_self, Bool.and_true, Bool.true_and, and_self, and_true, true_and, if_true, if_false, ite_true, ite_false, Option.bind_some, Bool.false_eq_true, decide_true, decide_false, Bool.not_true, Bool.not_false, is_sn, is_sb, isi_ss, e, str_t, f1, List.append_assoc]
  · rw [str_sp, str_ex, str_ea, str_eb] at em
    simp only [_law_code_D, ev_setix, sa_lst, sb_lst, ixN_j0, ixN_j1, ev_getR, sg_own, sg_bor, ev_putR, sp_own, sp_bor, so_some, ev_C, ev_V, sv_val, sv_own, sv_bor, ev_1, ev_2, ev_nil, ev_cons, ev_A, ev_If, ev_T, ev_Or, ev_And, ev_Not, ev_TOr, ev_TAnd, ev_TNot, ev_Tup, ev_Lst, ev_LstF, ev_Fz, ev_Str1C, ev_bind, ev_bindX, ev_out, ev_outX, ev_opt, ev_seq, so_nx, so_ret, so_exc, ev_skip, ev_ifS, ao_some, ev_asg, ev_gN, ev_nob, sn_no, sn_val, sn_own, ev_own, ev_par, ev_gTl0, ev_gTl1, ev_gT, ev_ret, ev_retF, ev_expr, ev_raise, ev_for, ev_iter, ev_iterA, ev_sl, ev_noP, ev_partC, dr_slot, sr_own, sr_bor, sr_ownD, dr_non, dr_bl, dr_int, dr_str, dr_tup, dr_lst, dr_ro, dr_dic, dr_raw, u_non, u_bl, u_int, u_str, u_tup, u_lst, u_ro, u_dic, u_raw, tr_bl, ixA_lst, ixA_ro, ixA_tup, ixA_str, gt_int, ge_int, lt_int, le_int, add_int, sub_int, int_int, eq_int, List.getElem?_cons_zero, List.getElem?_cons_succ, List.set_cons_zero, List.set_cons_succ, List.map_cons, List.map_nil, List.all_cons, List.all_nil, Bool.and_self, Bool.and_true, Bool.true_and, and_self, and_true, true_and, if_true, if_false, ite_true, ite_false, Option.bind_some, Bool.false_eq_true, decide_true, decide_false, Bool.not_true, Bool.not_false, is_sn, is_sb, isi_ss, str_cnt, str_t, str_no, str_sp, str_ex, str_ea, str_eb, em, frz, ej, f2, f3]
end DL
set_option Elab.async false
set_option linter.all false
set_option maxRecDepth 100000
set_option autoImplicit false
set_option maxHeartbeats 400000
namespace DL
open PySem PySem.Spec PyProof.Rows L2
theorem addD_lst {a b : List D} (h : a.length + b.length ≤ 16777216) : addD (.lst a) (.lst b) = some (.lst (a ++ b)) := by
  show (if a.length + b.length ≤ sizeLine then some (D.lst (a ++ b)) else none) = _
  rw [sizeLine_eq, if_pos h]
theorem vc_good {d : D} {z : List Nat} (h : IsVal d true) (c : Code d z) : value_code_D [.val d] = .ret (.val (.str (S z))) [.val d] := by
  obtain ⟨δ1, e1⟩ := c.2.1
  have e := isv_call h
  have e2 := call_val (m := 1) (np := 1) (body := code_of_D) (ms := mCons (mV 0) mNil) (δ := [.val d]) (ds := [d]) rfl (by simp [h.1]) rfl e1 rfl
  simp only [value_code_D, ev_setix, sa_lst, sb_lst, ixN_j0, ixN_j1, ev_getR, sg_own, sg_bor, ev_putR, sp_own, sp_bor, so_some, ev_C, ev_V, sv_val, sv_own, sv_bor, ev_1, ev_2, ev_nil, ev_cons, ev_A, ev_If, ev_T, ev_Or, ev_And, ev_Not, ev_TOr, ev_TAnd, ev_TNot, ev_Tup, ev_Lst, ev_LstF, ev_Fz, ev_Str1C, ev_bind, ev_bindX, ev_out, ev_outX, ev_opt, ev_seq, so_nx, so_ret, so_exc, ev_skip, ev_ifS, ao_some, ev_asg, ev_gN, ev_nob, sn_no, sn_val, sn_own, ev_own, ev_par, ev_gTl0, ev_gTl1, ev_gT, ev_ret, ev_retF, ev_expr, ev_raise, ev_for, ev_iter, ev_iterA, ev_sl, ev_noP, ev_partC, dr_slot, sr_own, sr_bor, sr_ownD, dr_non, dr_bl, dr_int, dr_str, dr_tup, dr_lst, dr_ro, dr_dic, dr_raw, u_non, u_bl, u_int, u_str, u_tup, u_lst, u_ro, u_dic, u_raw, tr_bl, ixA_lst, ixA_ro, ixA_tup, ixA_str, gt_int, ge_int, lt_int, le_int, add_int, sub_int, int_int, eq_int, List.getElem?_cons_zero, List.getElem?_cons_succ, List.set_cons_zero, List.set_cons_succ, List.map_cons, List.map_nil, List.all_cons, List.all_nil, Bool.and_self, Bool.and_true, Bool.true_and, and_self, and_true, true_and, if_true, if_false, ite_true, ite_false, Option.bind_some, Bool.false_eq_true, decide_true, decide_false, Bool.not_true, Bool.not_false, e, e2]
theorem vc_bad {d : D} (h : IsVal d false) : value_code_D [.val d] = .exc ⟨"InvalidValue", []⟩ [.val d] := by
  have e := isv_call h
  simp only [value_code_D, ev_setix, sa_lst, sb_lst, ixN_j0, ixN_j1, ev_getR, sg_own, sg_bor, ev_putR, sp_own, sp_bor, so_some, ev_C, ev_V, sv_val, sv_own, sv_bor, ev_1, ev_2, ev_nil, ev_cons, ev_A, ev_If, ev_T, ev_Or, ev_And, ev_Not, ev_TOr, ev_TAnd, ev_TNot, ev_Tup, ev_Lst, ev_LstF, ev_Fz, ev_Str1C, ev_bind, ev_bindX, ev_out, ev_outX, ev_opt, ev_seq, so_nx, so_ret, so_exc, ev_skip, ev_ifS, ao_some, ev_asg, ev_gN, ev_nob, sn_no, sn_val, sn_own, ev_own, ev_par, ev_gTl0, ev_gTl1, ev_gT, ev_ret, ev_retF, ev_expr, ev_raise, ev_for, ev_iter, ev_iterA, ev_sl, ev_noP, ev_partC, dr_slot, sr_own, sr_bor, sr_ownD, dr_non, dr_bl, dr_int, dr_str, dr_tup, dr_lst, dr_ro, dr_dic, dr_raw, u_non, u_bl, u_int, u_str, u_tup, u_lst, u_ro, u_dic, u_raw, tr_bl, ixA_lst, ixA_ro, ixA_tup, ixA_str, gt_int, ge_int, lt_int, le_int, add_int, sub_int, int_int, eq_int, List.getElem?_cons_zero, List.getElem?_cons_succ, List.set_cons_zero, List.set_cons_succ, List.map_cons, List.map_nil, List.all_cons, List.all_nil, Bool.and_self, Bool.and_true, Bool.true_and, and_self, and_true, true_and, if_true, if_false, ite_true, ite_false, Option.bind_some, Bool.false_eq_true, decide_true, decide_false, Bool.not_true, Bool.not_false, e]
theorem lc_call {d : D} {z : List Nat} (c : Code d z) {δ δ1 : Dl} {ms : ML} (hms : ms δ = .ok [d] δ1) : mCall 5 1 _law_code_D [] ms δ = .ok (.str (S z)) δ1 := by
  obtain ⟨δ2, e2⟩ := c.2.2.2
  exact call_val (ds := [d]) hms (by simp [c.1]) rfl e2 rfl
theorem told_good {d : D} {z : List Nat} (h : IsVal d true) (c : Code d z) {δ δ1 : Dl} {ms : ML} (hms : ms δ = .ok [d] δ1) : mCall 2 1 _law_told_D [] ms δ = .ok (.tup [.str (S z)]) δ1 := by
  refine call_val (ds := [d]) (δ' := [.val d, .val (.tup [.str (S z)])]) hms (by simp [h.1]) rfl ?_ rfl
  show _law_told_D [.val d, .no] = _
  have hl : (1 : Nat) ≤ sizeLine := szL.1
  have e2 := call_val (m := 1) (np := 1) (body := value_code_D) (ms := mCons (mV 0) mNil) (δ := [.val d, .val (.str "other")]) (ds := [d]) rfl (by simp [h.1]) rfl (vc_good h c) rfl
  have et : ∀ hs, mTry (mAsg (mTup (mCons (mCall 1 1 value_code_D [] (mCons (mV 0) mNil)) mNil)) (gN 1)) hs [.val d, .val (.str "other")] = .nx [.val d, .val (.tup [.str (S z)])] := by
    intro hs
    unfold mTry
    have : mAsg (mTup (mCons (mCall 1 1 value_code_D [] (mCons (mV 0) mNil)) mNil)) (gN 1) [.val d, .val (.str "other")] = .nx [.val d, .val (.tup [.str (S z)])] := by
      simp only [ev_setix, sa_lst, sb_lst, ixN_j0, ixN_j1, ev_getR, sg_own, sg_bor, ev_putR, sp_own, sp_bor, so_some, ev_C, ev_V, sv_val, sv_own, sv_bor, ev_1, ev_2, ev_nil, ev_cons, ev_A, ev_If, ev_T, ev_Or, ev_And, ev_Not, ev_TOr, ev_TAnd, ev_TNot, ev_Tup, ev_Lst, ev_LstF, ev_Fz, ev_Str1C, ev_bind, ev_bindX, ev_out, ev_outX, ev_opt, ev_seq, so_nx, so_ret, so_exc, ev_skip, ev_ifS, ao_some, ev_asg, ev_gN, ev_nob, sn_no, sn_val, sn_own, ev_own, ev_par, ev_gTl0, ev_gTl1, ev_gT, ev_ret, ev_retF, ev_expr, ev_raise, ev_for, ev_iter, ev_iterA, ev_sl, ev_noP, ev_partC, dr_slot, sr_own, sr_bor, sr_ownD, dr_non, dr_bl, dr_int, dr_str, dr_tup, dr_lst, dr_ro, dr_dic, dr_raw, u_non, u_bl, u_int, u_str, u_tup, u_lst, u_ro, u_dic, u_raw, tr_bl, ixA_lst, ixA_ro, ixA_tup, ixA_str, gt_int, ge_int, lt_int, le_int, add_int, sub_int, int_int, eq_int, List.getElem?_cons_zero, List.getElem?_cons_succ, List.set_cons_zero, List.set_cons_succ, List.map_cons, List.map_nil, List.all_cons, List.all_nil, Bool.and_self, Bool.and_true, Bool.true_and, and_self, and_true, true_and, if_true, if_false, ite_true, ite_false, Option.bind_some, Bool.false_eq_true, decide_true, decide_false, Bool.not_true, Bool.not_false, e2, List.length_cons, List.length_nil, Nat.reduceAdd, hl]
    rw [this]
  simp only [_law_told_D, ev_setix, sa_lst, sb_lst, ixN_j0, ixN_j1, ev_getR, sg_own, sg_bor, ev_putR, sp_own, sp_bor, so_some, ev_C, ev_V, sv_val, sv_own, sv_bor, ev_1, ev_2, ev_nil, ev_cons, ev_A, ev_If, ev_T, ev_Or, ev_And, ev_Not, ev_TOr, ev_TAnd, ev_TNot, ev_Tup, ev_Lst, ev_LstF, ev_Fz, ev_Str1C, ev_bind, ev_bindX, ev_out, ev_outX, ev_opt, ev_seq, so_nx, so_ret, so_exc, ev_skip, ev_ifS, ao_some, ev_asg, ev_gN, ev_nob, sn_no, sn_val, sn_own, ev_own, ev_par, ev_gTl0, ev_gTl1, ev_gT, ev_ret, ev_retF, ev_expr, ev_raise, ev_for, ev_iter, ev_iterA, ev_sl, ev_noP, ev_partC, dr_slot, sr_own, sr_bor, sr_ownD, dr_non, dr_bl, dr_int, dr_str, dr_tup, dr_lst, dr_ro, dr_dic, dr_raw, u_non, u_bl, u_int, u_str, u_tup, u_lst, u_ro, u_dic, u_raw, tr_bl, ixA_lst, ixA_ro, ixA_tup, ixA_str, gt_int, ge_int, lt_int, le_int, add_int, sub_int, int_int, eq_int, List.getElem?_cons_zero, List.getElem?_cons_succ, List.set_cons_zero, List.set_cons_succ, List.map_cons, List.map_nil, List.all_cons, List.all_nil, Bool.and_self, Bool.and_true, Bool.true_and, and_self, and_true, true_and, if_true, if_false, ite_true, ite_false, Option.bind_some, Bool.false_eq_true, decide_true, decide_false, Bool.not_true, Bool.not_false, et]
theorem told_bad {d : D} (h : IsVal d false) {δ δ1 : Dl} {ms : ML} (hms : ms δ = .ok [d] δ1) : mCall 2 1 _law_told_D [] ms δ = .ok (.str "value") δ1 := by
  refine call_val (ds := [d]) (δ' := [.val d, .val (.str "value")]) hms (by simp [h.1]) rfl ?_ rfl
  show _law_told_D [.val d, .no] = _
  have e2 := call_exc (m := 1) (np := 1) (body := value_code_D) (ms := mCons (mV 0) mNil) (δ := [.val d, .val (.str "other")]) (ds := [d]) rfl (by simp [h.1]) rfl (vc_bad h)
  have et : ∀ hs, mTry (mAsg (mTup (mCons (mCall 1 1 value_code_D [] (mCons (mV 0) mNil)) mNil)) (gN 1)) (hand [(("InvalidValue" : PySem.Str), true)] (mAsg (mC (.str ("value" : PySem.Str))) (gN 1)) hs) [.val d, .val (.str "other")] = .nx [.val d, .val (.str "value")] := by
    intro hs
    unfold mTry
    have : mAsg (mTup (mCons (mCall 1 1 value_code_D [] (mCons (mV 0) mNil)) mNil)) (gN 1) [.val d, .val (.str "other")] = .exc ⟨"InvalidValue", []⟩ [.val d, .val (.str "other")] := by
      simp only [ev_setix, sa_lst, sb_lst, ixN_j0, ixN_j1, ev_getR, sg_own, sg_bor, ev_putR, sp_own, sp_bor, so_some, ev_C, ev_V, sv_val, sv_own, sv_bor, ev_1, ev_2, ev_nil, ev_cons, ev_A, ev_If, ev_T, ev_Or, ev_And, ev_Not, ev_TOr, ev_TAnd, ev_TNot, ev_Tup, ev_Lst, ev_LstF, ev_Fz, ev_Str1C, ev_bind, ev_bindX, ev_out, ev_outX, ev_opt, ev_seq, so_nx, so_ret, so_exc, ev_skip, ev_ifS, ao_some, ev_asg, ev_gN, ev_nob, sn_no, sn_val, sn_own, ev_own, ev_par, ev_gTl0, ev_gTl1, ev_gT, ev_ret, ev_retF, ev_expr, ev_raise, ev_for, ev_iter, ev_iterA, ev_sl, ev_noP, ev_partC, dr_slot, sr_own, sr_bor, sr_ownD, dr_non, dr_bl, dr_int, dr_str, dr_tup, dr_lst, dr_ro, dr_dic, dr_raw, u_non, u_bl, u_int, u_str, u_tup, u_lst, u_ro, u_dic, u_raw, tr_bl, ixA_lst, ixA_ro, ixA_tup, ixA_str, gt_int, ge_int, lt_int, le_int, add_int, sub_int, int_int, eq_int, List.getElem?_cons_zero, List.getElem?_cons_succ, List.set_cons_zero, List.set_cons_succ, List.map_cons, List.map_nil, List.all_cons, List.all_nil, Bool.and_self, Bool.and_true, Bool.true_and, and_self, and_true, true_and, if_true, if_false, ite_true, ite_false, Option.bind_some, Bool.false_eq_true, decide_true, decide_false, Bool.not_true, Bool.not_false, e2]
    rw [this]
    unfold hand
    simp only [List.lookup, beq_self_eq_true, ev_setix, sa_lst, sb_lst, ixN_j0, ixN_j1, ev_getR, sg_own, sg_bor, ev_putR, sp_own, sp_bor, so_some, ev_C, ev_V, sv_val, sv_own, sv_bor, ev_1, ev_2, ev_nil, ev_cons, ev_A, ev_If, ev_T, ev_Or, ev_And, ev_Not, ev_TOr, ev_TAnd, ev_TNot, ev_Tup, ev_Lst, ev_LstF, ev_Fz, ev_Str1C, ev_bind, ev_bindX, ev_out, ev_outX, ev_opt, ev_seq, so_nx, so_ret, so_exc, ev_skip, ev_ifS, ao_some, ev_asg, ev_gN, ev_nob, sn_no, sn_val, sn_own, ev_own, ev_par, ev_gTl0, ev_gTl1, ev_gT, ev_ret, ev_retF, ev_expr, ev_raise, ev_for, ev_iter, ev_iterA, ev_sl, ev_noP, ev_partC, dr_slot, sr_own, sr_bor, sr_ownD, dr_non, dr_bl, dr_int, dr_str, dr_tup, dr_lst, dr_ro, dr_dic, dr_raw, u_non, u_bl, u_int, u_str, u_tup, u_lst, u_ro, u_dic, u_raw, tr_bl, ixA_lst, ixA_ro, ixA_tup, ixA_str, gt_int, ge_int, lt_int, le_int, add_int, sub_int, int_int, eq_int, List.getElem?_cons_zero, List.getElem?_cons_succ, List.set_cons_zero, List.set_cons_succ, List.map_cons, List.map_nil, List.all_cons, List.all_nil, Bool.and_self, Bool.and_true, Bool.true_and, and_self, and_true, true_and, if_true, if_false, ite_true, ite_false, Option.bind_some, Bool.false_eq_true, decide_true, decide_false, Bool.not_true, Bool.not_false]
  simp only [_law_told_D, ev_setix, sa_lst, sb_lst, ixN_j0, ixN_j1, ev_getR, sg_own, sg_bor, ev_putR, sp_own, sp_bor, so_some, ev_C, ev_V, sv_val, sv_own, sv_bor, ev_1, ev_2, ev_nil, ev_cons, ev_A, ev_If, ev_T, ev_Or, ev_And, ev_Not, ev_TOr, ev_TAnd, ev_TNot, ev_Tup, ev_Lst, ev_LstF, ev_Fz, ev_Str1C, ev_bind, ev_bindX, ev_out, ev_outX, ev_opt, ev_seq, so_nx, so_ret, so_exc, ev_skip, ev_ifS, ao_some, ev_asg, ev_gN, ev_nob, sn_no, sn_val, sn_own, ev_own, ev_par, ev_gTl0, ev_gTl1, ev_gT, ev_ret, ev_retF, ev_expr, ev_raise, ev_for, ev_iter, ev_iterA, ev_sl, ev_noP, ev_partC, dr_slot, sr_own, sr_bor, sr_ownD, dr_non, dr_bl, dr_int, dr_str, dr_tup, dr_lst, dr_ro, dr_dic, dr_raw, u_non, u_bl, u_int, u_str, u_tup, u_lst, u_ro, u_dic, u_raw, tr_bl, ixA_lst, ixA_ro, ixA_tup, ixA_str, gt_int, ge_int, lt_int, le_int, add_int, sub_int, int_int, eq_int, List.getElem?_cons_zero, List.getElem?_cons_succ, List.set_cons_zero, List.set_cons_succ, List.map_cons, List.map_nil, List.all_cons, List.all_nil, Bool.and_self, Bool.and_true, Bool.true_and, and_self, and_true, true_and, if_true, if_false, ite_true, ite_false, Option.bind_some, Bool.false_eq_true, decide_true, decide_false, Bool.not_true, Bool.not_false, et]
/-- a value and its code -/
theorem val_good {d : D} (h : ValP d) : IsVal d true ∧ ∃ z, Code d z := by
  rcases h with rfl | ⟨k, rfl⟩ | ⟨i, rfl, h1, h2⟩ | ⟨l, rfl, h1, h2⟩
  · exact ⟨isv_non, _, code_non⟩
  · exact ⟨isv_bl k, code_bl k⟩
  · refine ⟨?_, code_int h1 h2⟩
    have := isv_int i
    rw [decide_eq_true (by omega)] at this
    exact this
  · refine ⟨?_, code_str (by omega) h2⟩
    have := isv_str l (by omega)
    rw [decide_eq_true h1, show l.all inR = true from List.all_eq_true.mpr fun k hk => by simp [inR, h2 k hk]] at this
    exact this
theorem bad_int {i : Int} (h : 999999999999999999999999999999 < ((i.natAbs : Nat) : Int)) : IsVal (.int i) false := by
  have := isv_int i
  rw [decide_eq_false (by omega)] at this
  exact this
theorem bad_long {l : List Nat} (h : 200 < l.length) (h2 : l.length ≤ 1000) : IsVal (.str (S l)) false := by
  have := isv_str l h2
  rw [decide_eq_false (by omega), Bool.and_false] at this
  exact this
theorem bad_sign {l : List Nat} {k : Nat} (h : k ∈ l) (hk : inR k = false) (h2 : l.length ≤ 1000) : IsVal (.str (S l)) false := by
  have := isv_str l h2
  have e : l.all inR = false := by
    cases q : l.all inR with
    | false => rfl
    | true => rw [List.all_eq_true.mp q k h] at hk; cases hk
  rw [e, Bool.false_and] at this
  exact this
theorem ix_lst {ds : List D} {r : Int} (h0 : 0 ≤ r) (h : r < ds.length) : ∃ d ∈ ds, ixD (.lst ds) (.int r) = some d := by
  have hi : r.toNat < ds.length := by omega
  refine ⟨ds[r.toNat], List.getElem_mem hi, ?_⟩
  show atI ds r = _
  unfold atI ixN
  rw [if_pos h0, if_pos h]
  simp only [Option.bind_some, List.getElem?_eq_getElem hi]
def BadP (d : D) : Prop := IsVal d false
theorem cut9 (l : List Nat) (hl : l.length ≤ 1000) : slD (.str (S l)) none (some 9) = some (.str (S (l.take 9))) := by
  show (if (S l).length ≤ sizeLine then some (D.str (cutS (S l) none (some 9))) else none) = _
  rw [S_len, sizeLine_eq, if_pos (by omega)]
  unfold cutS
  rw [S_len, S_toList]
  simp only [HT.sIx_none, List.drop_zero, Nat.sub_zero, HT.sIx]
  rw [if_neg (by decide)]
  congr 4
  show List.take (min 9 l.length) l = List.take 9 l
  rw [← List.take_take, List.take_length]
theorem str_nl : ("\n" : PySem.Str) = S [10] := by decide +kernel
theorem str_tab : ("\t" : PySem.Str) = S [9] := by decide +kernel
theorem str_anb : ("a\nb" : PySem.Str) = S [97, 10, 98] := by decide +kernel
theorem bent_body {a b : Int} (hb : JarB b) : RetJ BadP (_law_bent_D [.bor (jar a b), .no, .no, .no, .no, .no, .no]) := by
  obtain ⟨r, a1, b1, e1, r1, r2, hb1⟩ := dc (a := a) 20 hb (by decide) (by decide)
  obtain ⟨s, a2, b2, e2, s1, s2, hb2⟩ := dc (a := a1) 2 hb1 (by decide) (by decide)
  obtain ⟨x, a3, b3, e3, x1, x2, hb3⟩ := dc (a := a2) 9 hb2 (by decide) (by decide)
  obtain ⟨y, a4, b4, e4, y1, y2, hb4⟩ := dc (a := a3) 10 hb3 (by decide) (by decide)
  obtain ⟨d, a5, b5, e5, hb5, u5, l, rfl, l1, l2⟩ := call_retJ (m := 9) (text_body (a := a4) hb4)
  have hl1 : (1 : Nat) ≤ sizeLine := szL.1
  have hl2 : (2 : Nat) ≤ sizeLine := szL.2.1
  have hl9 : (9 : Nat) ≤ sizeLine := by rw [sizeLine_eq]; decide
  have hl11 : (11 : Nat) ≤ sizeLine := by rw [sizeLine_eq]; decide
  have hl0 : (0 : Nat) ≤ sizeLine := Nat.zero_le _
  have p30 : powD (.int 10) (.int 30) = some (.int 1000000000000000000000000000000) := rfl
  have p20 : powD (.int 10) (.int 20) = some (.int 100000000000000000000) := rfl
  have p60 : powD (.int 10) (.int 60) = some (.int 1000000000000000000000000000000000000000000000000000000000000) := rfl
  have m1 : mulD (.int 1000000000000000000000000000000) (.int (1 + x)) = some (.int (1000000000000000000000000000000 * (1 + x))) := mul_int (by decide) (by decide) (by omega) (by omega)
  have m2 : mulD (.int y) (.int 100000000000000000000) = some (.int (y * 100000000000000000000)) := mul_int (by omega) (by omega) (by decide) (by decide)
  obtain ⟨c, hc⟩ : ∃ c, ixD (.lst [.str (S [32]), .str (S [97])]) (.int s) = some (.str (S [c])) := by
    rcases (by omega : s = 0 ∨ s = 1) with q | q
    · exact ⟨32, by rw [q]; rfl⟩
    · exact ⟨97, by rw [q]; rfl⟩
  have el := len_S l (by omega)
  have m3 := mul_S c (201 - (l.length : Int)) (by omega) (by omega)
  generalize hR : List.replicate (201 - (l.length : Int)).toNat c = R at m3
  have lR : l.length + R.length = 201 := by rw [← hR, List.length_replicate]; omega
  have f1 := add_S l R (by omega)
  have f2 := add_S R l (by omega)
  have f3 := add_S (l ++ R) l (by rw [List.length_append]; omega)
  have t9 : (l.take 9).length ≤ 9 := by rw [List.length_take]; omega
  have f4 := add_S (l.take 9) [10] (by show _ + 1 ≤ _; omega)
  have f5 := add_S [9] (l.take 9) (by show 1 + _ ≤ _; omega)
  have ec := cut9 l (by omega)
  let menu : List D := [.str (S (l ++ R)), .str (S (R ++ l)), .int (1000000000000000000000000000000 * (1 + x) + y * 100000000000000000000), .int (0 - (1000000000000000000000000000000 * (1 + x) + y * 100000000000000000000)), .int 1000000000000000000000000000000, .int (0 - 1000000000000000000000000000000), .int 1000000000000000000000000000000000000000000000000000000000000, .str (S (l.take 9 ++ [10])), .str (S ([9] ++ l.take 9))] ++ [.str (S (l ++ R ++ l)), .tup [], .tup [.int 1], .lst [.int 1], .tup [.str (S [97])], .lst [], .lst [.str (S [97])], .tup [.non], .str (S [97, 10, 98]), .lst [.str (S l)], .tup [.str (S l)]]
  obtain ⟨d, hd, ed⟩ := ix_lst (ds := menu) (r := r) r1 (by show r < ((20 : Nat) : Int); omega)
  have hbad : ∀ d ∈ menu, BadP d := by
    intro d hd
    simp only [menu, List.cons_append, List.nil_append, List.mem_cons, List.not_mem_nil, or_false] at hd
    rcases hd with rfl | rfl | rfl | rfl | rfl | rfl | rfl | rfl | rfl | rfl | rfl | rfl | rfl | rfl | rfl | rfl | rfl | rfl | rfl | rfl
    · exact bad_long (by rw [List.length_append]; omega) (by rw [List.length_append]; omega)
    · exact bad_long (by rw [List.length_append]; omega) (by rw [List.length_append]; omega)
    · exact bad_int (by omega)
    · exact bad_int (by omega)
    · exact bad_int (by omega)
    · exact bad_int (by omega)
    · exact bad_int (by omega)
    · exact bad_sign (k := 10) (by simp) rfl (by rw [List.length_append]; show _ + 1 ≤ _; omega)
    · exact bad_sign (k := 9) (by simp) rfl (by show (l.take 9).length + 1 ≤ _; omega)
    · exact bad_long (by rw [List.length_append, List.length_append]; omega) (by rw [List.length_append, List.length_append]; omega)
    · exact isv_tup _
    · exact isv_tup _
    · exact isv_lst _
    · exact isv_tup _
    · exact isv_lst _
    · exact isv_lst _
    · exact isv_tup _
    · exact bad_sign (k := 10) (by simp) rfl (by decide)
    · exact isv_lst _
    · exact isv_tup _
  have hB := hbad d hd
  have fm : addD (.lst [.str (S (l ++ R)), .str (S (R ++ l)), .int (1000000000000000000000000000000 * (1 + x) + y * 100000000000000000000), .int (0 - (1000000000000000000000000000000 * (1 + x) + y * 100000000000000000000)), .int 1000000000000000000000000000000, .int (0 - 1000000000000000000000000000000), .int 1000000000000000000000000000000000000000000000000000000000000, .str (S (l.take 9 ++ [10])), .str (S ([9] ++ l.take 9))]) (.lst [.str (S (l ++ R ++ l)), .tup [], .tup [.int 1], .lst [.int 1], .tup [.str (S [97])], .lst [], .lst [.str (S [97])], .tup [.non], .str (S [97, 10, 98]), .lst [.str (S l)], .tup [.str (S l)]]) = some (.lst menu) := by
    exact addD_lst (by show 9 + 11 ≤ 16777216; decide)
  simp only [_law_bent_D, ev_seq, ev_asg, ev_par, ev_setix, sa_lst, sb_lst, ixN_j0, ixN_j1, ev_getR, sg_own, sg_bor, ev_putR, sp_own, sp_bor, so_some, ev_C, ev_V, sv_val, sv_own, sv_bor, ev_1, ev_2, ev_nil, ev_cons, ev_A, ev_If, ev_T, ev_Or, ev_And, ev_Not, ev_TOr, ev_TAnd, ev_TNot, ev_Tup, ev_Lst, ev_LstF, ev_Fz, ev_Str1C, ev_bind, ev_bindX, ev_out, ev_outX, ev_opt, ev_seq, so_nx, so_ret, so_exc, ev_skip, ev_ifS, ao_some, ev_asg, ev_gN, ev_nob, sn_no, sn_val, sn_own, ev_own, ev_par, ev_gTl0, ev_gTl1, ev_gT, ev_ret, ev_retF, ev_expr, ev_raise, ev_for, ev_iter, ev_iterA, ev_sl, ev_noP, ev_partC, dr_slot, sr_own, sr_bor, sr_ownD, dr_non, dr_bl, dr_int, dr_str, dr_tup, dr_lst, dr_ro, dr_dic, dr_raw, u_non, u_bl, u_int, u_str, u_tup, u_lst, u_ro, u_dic, u_raw, tr_bl, ixA_lst, ixA_ro, ixA_tup, ixA_str, gt_int, ge_int, lt_int, le_int, add_int, sub_int, int_int, eq_int, List.getElem?_cons_zero, List.getElem?_cons_succ, List.set_cons_zero, List.set_cons_succ, List.map_cons, List.map_nil, List.all_cons, List.all_nil, Bool.and_self, Bool.and_true, Bool.true_and, and_self, and_true, true_and, if_true, if_false, ite_true, ite_false, Option.bind_some, Bool.false_eq_true, decide_true, decide_false, Bool.not_true, Bool.not_false, e1, e2, p30, e3, m1, e4, p20, m2, e5, str_sp, str_a, hl2, List.length_cons, List.length_nil, Nat.reduceAdd, hc, el, m3, f1, f2, f3, p60, ec, str_nl, str_tab, f4, f5, hl9, hl11, hl1, hl0, str_anb, Int.zero_sub] at fm ed ⊢
  simp only [ev_setix, sa_lst, sb_lst, ixN_j0, ixN_j1, ev_getR, sg_own, sg_bor, ev_putR, sp_own, sp_bor, so_some, ev_C, ev_V, sv_val, sv_own, sv_bor, ev_1, ev_2, ev_nil, ev_cons, ev_A, ev_If, ev_T, ev_Or, ev_And, ev_Not, ev_TOr, ev_TAnd, ev_TNot, ev_Tup, ev_Lst, ev_LstF, ev_Fz, ev_Str1C, ev_bind, ev_bindX, ev_out, ev_outX, ev_opt, ev_seq, so_nx, so_ret, so_exc, ev_skip, ev_ifS, ao_some, ev_asg, ev_gN, ev_nob, sn_no, sn_val, sn_own, ev_own, ev_par, ev_gTl0, ev_gTl1, ev_gT, ev_ret, ev_retF, ev_expr, ev_raise, ev_for, ev_iter, ev_iterA, ev_sl, ev_noP, ev_partC, dr_slot, sr_own, sr_bor, sr_ownD, dr_non, dr_bl, dr_int, dr_str, dr_tup, dr_lst, dr_ro, dr_dic, dr_raw, u_non, u_bl, u_int, u_str, u_tup, u_lst, u_ro, u_dic, u_raw, tr_bl, ixA_lst, ixA_ro, ixA_tup, ixA_str, gt_int, ge_int, lt_int, le_int, add_int, sub_int, int_int, eq_int, List.getElem?_cons_zero, List.getElem?_cons_succ, List.set_cons_zero, List.set_cons_succ, List.map_cons, List.map_nil, List.all_cons, List.all_nil, Bool.and_self, Bool.and_true, Bool.true_and, and_self, and_true, true_and, if_true, if_false, ite_true, ite_false, Option.bind_some, Bool.false_eq_true, decide_true, decide_false, Bool.not_true, Bool.not_false, fm, ed, hB.1]
  exact retJ hb5 hB.1 hB
end DL
set_option Elab.async false
set_option linter.all false
set_option maxRecDepth 100000
set_option autoImplicit false
set_option maxHeartbeats 400000
namespace DL
open PySem PySem.Spec PyProof.Rows L2
theorem ne_str {z : Str} : neD (.str z) (.str z) = some (.bl false) := by
  unfold neD eqB
  simp [scalD, scal]
theorem ne_tup1 {z : List Nat} (hz : ∀ k ∈ z, k < 1114112) : neD (.tup [.str (S z)]) (.tup [.str (S z)]) = some (.bl false) := by
  have hs : PyData.strOk (S z) = true := by
    simp only [PyData.strOk, S, List.all_toArray]
    exact List.all_eq_true.mpr fun k hk => decide_eq_true (hz k hk)
  unfold neD eqB
  simp [scalD, deepD, toPy, toPys, SeqAt.shaped, PyData.eqv]
  refine ⟨⟨by simp [PyData.canLay0, PyData.canLayAll0, hs], by simp [PyData.depth, PyData.depthAll]⟩, by first | rfl | simp [PyData.eqvAll, PyData.eqv]⟩
theorem pick_one {d : D} {i : Nat} {δ : Dl} (h : mV i δ = .ok d δ) : mPick 0 1 [0] mNil (mCons (mV i) mNil) δ = .ok [d] δ := by
  unfold mPick
  simp [mNil, mCons, Er.bind, h, pick]
abbrev eBody : MS := (mIfS (mT (m2 neD (mCall 2 1 _law_told_D [] (mCons (mV 2) mNil)) (mTup (mCons (mCall 5 1 _law_code_D [] (mCons (mV 2) mNil)) mNil))))
  (mRet (mC (.bl false)))
  mSkip)
theorem edges_loop {s0 s1 s3 s4 s5 : Slot} : ∀ (ds : List D) (s2 : Slot), slotN (some s2) = true → (∀ d ∈ ds, ValP d) → ∃ s2', slotN (some s2') = true ∧ forGo (gN 2) eBody ds [s0, s1, s2, s3, s4, s5] = .nx [s0, s1, s2', s3, s4, s5]
  | [], s2, h, _ => ⟨s2, h, rfl⟩
  | d :: ds, s2, h, hd => by
    obtain ⟨s2', h1, h2⟩ := edges_loop (s0 := s0) (s1 := s1) (s3 := s3) (s4 := s4) (s5 := s5) ds (.val d) rfl fun x hx => hd x (List.mem_cons_of_mem _ hx)
    refine ⟨s2', h1, ?_⟩
    rw [← h2]
    obtain ⟨hv, z, hz⟩ := val_good (hd d List.mem_cons_self)
    have hl : (1 : Nat) ≤ sizeLine := szL.1
    refine for_cons (δ1 := [s0, s1, .val d, s3, s4, s5]) ?_ ?_
    · simp only [ev_setix, sa_lst, sb_lst, ixN_j0, ixN_j1, ev_getR, sg_own, sg_bor, ev_putR, sp_own, sp_bor, so_some, ev_C, ev_V, sv_val, sv_own, sv_bor, ev_1, ev_2, ev_nil, ev_cons, ev_A, ev_If, ev_T, ev_Or, ev_And, ev_Not, ev_TOr, ev_TAnd, ev_TNot, ev_Tup, ev_Lst, ev_LstF, ev_Fz, ev_Str1C, ev_bind, ev_bindX, ev_out, ev_outX, ev_opt, ev_seq, so_nx, so_ret, so_exc, ev_skip, ev_ifS, ao_some, ev_asg, ev_gN, ev_nob, sn_no, sn_val, sn_own, ev_own, ev_par, ev_gTl0, ev_gTl1, ev_gT, ev_ret, ev_retF, ev_expr, ev_raise, ev_for, ev_iter, ev_iterA, ev_sl, ev_noP, ev_partC, dr_slot, sr_own, sr_bor, sr_ownD, dr_non, dr_bl, dr_int, dr_str, dr_tup, dr_lst, dr_ro, dr_dic, dr_raw, u_non, u_bl, u_int, u_str, u_tup, u_lst, u_ro, u_dic, u_raw, tr_bl, ixA_lst, ixA_ro, ixA_tup, ixA_str, gt_int, ge_int, lt_int, le_int, add_int, sub_int, int_int, eq_int, List.getElem?_cons_zero, List.getElem?_cons_succ, List.set_cons_zero, List.set_cons_succ, List.map_cons, List.map_nil, List.all_cons, List.all_nil, Bool.and_self, Bool.and_true, Bool.true_and, and_self, and_true, true_and, if_true, if_false, ite_true, ite_false, Option.bind_some, Bool.false_eq_true, decide_true, decide_false, Bool.not_true, Bool.not_false, h, hv.1]
    · have e1 := told_good hv hz (δ := [s0, s1, .val d, s3, s4, s5]) (ms := mCons (mV 2) mNil) rfl
      have e2 := lc_call hz (δ := [s0, s1, .val d, s3, s4, s5]) (ms := mCons (mV 2) mNil) rfl
      simp only [ev_setix, sa_lst, sb_lst, ixN_j0, ixN_j1, ev_getR, sg_own, sg_bor, ev_putR, sp_own, sp_bor, so_some, ev_C, ev_V, sv_val, sv_own, sv_bor, ev_1, ev_2, ev_nil, ev_cons, ev_A, ev_If, ev_T, ev_Or, ev_And, ev_Not, ev_TOr, ev_TAnd, ev_TNot, ev_Tup, ev_Lst, ev_LstF, ev_Fz, ev_Str1C, ev_bind, ev_bindX, ev_out, ev_outX, ev_opt, ev_seq, so_nx, so_ret, so_exc, ev_skip, ev_ifS, ao_some, ev_asg, ev_gN, ev_nob, sn_no, sn_val, sn_own, ev_own, ev_par, ev_gTl0, ev_gTl1, ev_gT, ev_ret, ev_retF, ev_expr, ev_raise, ev_for, ev_iter, ev_iterA, ev_sl, ev_noP, ev_partC, dr_slot, sr_own, sr_bor, sr_ownD, dr_non, dr_bl, dr_int, dr_str, dr_tup, dr_lst, dr_ro, dr_dic, dr_raw, u_non, u_bl, u_int, u_str, u_tup, u_lst, u_ro, u_dic, u_raw, tr_bl, ixA_lst, ixA_ro, ixA_tup, ixA_str, gt_int, ge_int, lt_int, le_int, add_int, sub_int, int_int, eq_int, List.getElem?_cons_zero, List.getElem?_cons_succ, List.set_cons_zero, List.set_cons_succ, List.map_cons, List.map_nil, List.all_cons, List.all_nil, Bool.and_self, Bool.and_true, Bool.true_and, and_self, and_true, true_and, if_true, if_false, ite_true, ite_false, Option.bind_some, Bool.false_eq_true, decide_true, decide_false, Bool.not_true, Bool.not_false, e1, e2, List.length_cons, List.length_nil, Nat.reduceAdd, hl, ne_tup1 hz.2.2.1]
abbrev lBody : MS := (mSeq (mOwn (mCallF 1 1 _law_jar_D [] (mCons (mV 3) mNil)) 4)
  (mSeq (mAsg (mCall 2 1 _law_value_D [] (mCons (mV 4) mNil)) (gN 2))
  (mSeq (mAsg (mCall 2 1 _law_told_D [] (mCons (mV 2) mNil)) (gN 5))
  (mSeq (mIfS (mTOr (mTNot (mT (mA isiD (mCons (mV 5) (mCons (mC (.raw (.ty "tuple"))) mNil))))) (mTOr (mTNot (mT (mA isiD (mCons (m2 ixA (mV 5) (mC (.int 0))) (mCons (mC (.raw (.ty "str"))) mNil))))) (mT (m2 neD (m2 ixA (mV 5) (mC (.int 0))) (mCall 5 1 _law_code_D [] (mCons (mV 2) mNil))))))
  (mRet (mC (.bl false)))
  mSkip)
  (mIfS (mTOr (mT (m2 neD (mCall 2 1 _law_told_D [] (mCons (mCall 7 1 _law_bent_D [] (mCons (mV 4) mNil)) mNil)) (mC (.str ("value" : PySem.Str))))) (mT (m2 neD (mCall 1 1 value_code_D [] (mPick 0 1 [0] mNil (mCons (mV 2) mNil))) (mCall 5 1 _law_code_D [] (mCons (mV 2) mNil)))))
  (mRet (mC (.bl false)))
  mSkip)))))
theorem cells_step {s0 s1 s2 s4 s5 : Slot} {x : Int} (h2 : slotN (some s2) = true) (h4 : slotN (some s4) = true) (h5 : slotN (some s5) = true) : ∃ s2' s4' s5', slotN (some s2') = true ∧ slotN (some s4') = true ∧ slotN (some s5') = true ∧ lBody [s0, s1, s2, .val (.int x), s4, s5] = .nx [s0, s1, s2', .val (.int x), s4', s5'] := by
  obtain ⟨a, b, δj, ej, hb⟩ := jar_body x
  have e1 : mCallF 1 1 _law_jar_D [] (mCons (mV 3) mNil) [s0, s1, s2, .val (.int x), s4, s5] = .ok (jar a b) [s0, s1, s2, .val (.int x), s4, s5] := callF_own (ds := [.int x]) rfl rfl rfl ej rfl
  obtain ⟨v, a1, b1, r1, ev, hb1, uv, hv⟩ := value_body (a := a) hb
  have e2 : mCall 2 1 _law_value_D [] (mCons (mV 4) mNil) [s0, s1, s2, .val (.int x), .own (jar a b), s5] = .ok v [s0, s1, s2, .val (.int x), .own (jar a1 b1), s5] := call_jar (mk := Slot.own) (j := 4) (ds := []) (np := 1) (.inl rfl) rfl rfl rfl rfl ev uv
  obtain ⟨hgood, z, hz⟩ := val_good hv
  have e3 := told_good hgood hz (δ := [s0, s1, .val v, .val (.int x), .own (jar a1 b1), s5]) (ms := mCons (mV 2) mNil) rfl
  have e4 := lc_call hz (δ := [s0, s1, .val v, .val (.int x), .own (jar a1 b1), .val (.tup [.str (S z)])]) (ms := mCons (mV 2) mNil) rfl
  obtain ⟨w, a2, b2, r2, ew, hb2, uw, hw⟩ := bent_body (a := a1) hb1
  have e5 : mCall 7 1 _law_bent_D [] (mCons (mV 4) mNil) [s0, s1, .val v, .val (.int x), .own (jar a1 b1), .val (.tup [.str (S z)])] = .ok w [s0, s1, .val v, .val (.int x), .own (jar a2 b2), .val (.tup [.str (S z)])] := call_jar (mk := Slot.own) (j := 4) (ds := []) (np := 1) (.inl rfl) rfl rfl rfl rfl ew uw
  have e6 := told_bad hw (δ := [s0, s1, .val v, .val (.int x), .own (jar a1 b1), .val (.tup [.str (S z)])]) (δ1 := [s0, s1, .val v, .val (.int x), .own (jar a2 b2), .val (.tup [.str (S z)])]) (ms := mCons (mCall 7 1 _law_bent_D [] (mCons (mV 4) mNil)) mNil) (by simp only [ev_setix, sa_lst, sb_lst, ixN_j0, ixN_j1, ev_getR, sg_own, sg_bor, ev_putR, sp_own, sp_bor, so_some, ev_C, ev_V, sv_val, sv_own, sv_bor, ev_1, ev_2, ev_nil, ev_cons, ev_A, ev_If, ev_T, ev_Or, ev_And, ev_Not, ev_TOr, ev_TAnd, ev_TNot, ev_Tup, ev_Lst, ev_LstF, ev_Fz, ev_Str1C, ev_bind, ev_bindX, ev_out, ev_outX, ev_opt, ev_seq, so_nx, so_ret, so_exc, ev_skip, ev_ifS, ao_some, ev_asg, ev_gN, ev_nob, sn_no, sn_val, sn_own, ev_own, ev_par, ev_gTl0, ev_gTl1, ev_gT, ev_ret, ev_retF, ev_expr, ev_raise, ev_for, ev_iter, ev_iterA, ev_sl, ev_noP, ev_partC, dr_slot, sr_own, sr_bor, sr_ownD, dr_non, dr_bl, dr_int, dr_str, dr_tup, dr_lst, dr_ro, dr_dic, dr_raw, u_non, u_bl, u_int, u_str, u_tup, u_lst, u_ro, u_dic, u_raw, tr_bl, ixA_lst, ixA_ro, ixA_tup, ixA_str, gt_int, ge_int, lt_int, le_int, add_int, sub_int, int_int, eq_int, List.getElem?_cons_zero, List.getElem?_cons_succ, List.set_cons_zero, List.set_cons_succ, List.map_cons, List.map_nil, List.all_cons, List.all_nil, Bool.and_self, Bool.and_true, Bool.true_and, and_self, and_true, true_and, if_true, if_false, ite_true, ite_false, Option.bind_some, Bool.false_eq_true, decide_true, decide_false, Bool.not_true, Bool.not_false, e5])
  have e7 := lc_call hz (δ := [s0, s1, .val v, .val (.int x), .own (jar a2 b2), .val (.tup [.str (S z)])]) (ms := mCons (mV 2) mNil) rfl
  have e8 : mCall 1 1 value_code_D [] (mPick 0 1 [0] mNil (mCons (mV 2) mNil)) [s0, s1, .val v, .val (.int x), .own (jar a2 b2), .val (.tup [.str (S z)])] = .ok (.str (S z)) [s0, s1, .val v, .val (.int x), .own (jar a2 b2), .val (.tup [.str (S z)])] :=
    call_val (ds := [v]) (pick_one rfl) (by simp [uv]) rfl (vc_good hgood hz) rfl
  have it0 : ixD (.tup [.str (S z)]) (.int 0) = some (.str (S z)) := rfl
  refine ⟨.val v, .own (jar a2 b2), .val (.tup [.str (S z)]), rfl, rfl, rfl, ?_⟩
  simp only [ev_setix, sa_lst, sb_lst, ixN_j0, ixN_j1, ev_getR, sg_own, sg_bor, ev_putR, sp_own, sp_bor, so_some, ev_C, ev_V, sv_val, sv_own, sv_bor, ev_1, ev_2, ev_nil, ev_cons, ev_A, ev_If, ev_T, ev_Or, ev_And, ev_Not, ev_TOr, ev_TAnd, ev_TNot, ev_Tup, ev_Lst, ev_LstF, ev_Fz, ev_Str1C, ev_bind, ev_bindX, ev_out, ev_outX, ev_opt, ev_seq, so_nx, so_ret, so_exc, ev_skip, ev_ifS, ao_some, ev_asg, ev_gN, ev_nob, sn_no, sn_val, sn_own, ev_own, ev_par, ev_gTl0, ev_gTl1, ev_gT, ev_ret, ev_retF, ev_expr, ev_raise, ev_for, ev_iter, ev_iterA, ev_sl, ev_noP, ev_partC, dr_slot, sr_own, sr_bor, sr_ownD, dr_non, dr_bl, dr_int, dr_str, dr_tup, dr_lst, dr_ro, dr_dic, dr_raw, u_non, u_bl, u_int, u_str, u_tup, u_lst, u_ro, u_dic, u_raw, tr_bl, ixA_lst, ixA_ro, ixA_tup, ixA_str, gt_int, ge_int, lt_int, le_int, add_int, sub_int, int_int, eq_int, List.getElem?_cons_zero, List.getElem?_cons_succ, List.set_cons_zero, List.set_cons_succ, List.map_cons, List.map_nil, List.all_cons, List.all_nil, Bool.and_self, Bool.and_true, Bool.true_and, and_self, and_true, true_and, if_true, if_false, ite_true, ite_false, Option.bind_some, Bool.false_eq_true, decide_true, decide_false, Bool.not_true, Bool.not_false, e1, h4, e2, uv, h2, e3, h5, isi_tt, it0, isi_ss, e4, ne_str, e6, e8, e7]
theorem cells_loop {s0 s1 : Slot} : ∀ (xs : List Int) (s2 s3 s4 s5 : Slot), slotN (some s2) = true → slotN (some s3) = true → slotN (some s4) = true → slotN (some s5) = true → ∃ s2' s3' s4' s5', forGo (gN 3) lBody (xs.map D.int) [s0, s1, s2, s3, s4, s5] = .nx [s0, s1, s2', s3', s4', s5']
  | [], s2, s3, s4, s5, _, _, _, _ => ⟨s2, s3, s4, s5, rfl⟩
  | x :: xs, s2, s3, s4, s5, h2, h3, h4, h5 => by
    obtain ⟨t2, t4, t5, q2, q4, q5, e⟩ := cells_step (s0 := s0) (s1 := s1) (x := x) h2 h4 h5
    obtain ⟨u2, u3, u4, u5, e2⟩ := cells_loop (s0 := s0) (s1 := s1) xs t2 (.val (.int x)) t4 t5 q2 rfl q4 q5
    refine ⟨u2, u3, u4, u5, ?_⟩
    rw [← e2]
    exact for_cons (δ1 := [s0, s1, s2, .val (.int x), s4, s5]) (by simp only [ev_setix, sa_lst, sb_lst, ixN_j0, ixN_j1, ev_getR, sg_own, sg_bor, ev_putR, sp_own, sp_bor, so_some, ev_C, ev_V, sv_val, sv_own, sv_bor, ev_1, ev_2, ev_nil, ev_cons, ev_A, ev_If, ev_T, ev_Or, ev_And, ev_Not, ev_TOr, ev_TAnd, ev_TNot, ev_Tup, ev_Lst, ev_LstF, ev_Fz, ev_Str1C, ev_bind, ev_bindX, ev_out, ev_outX, ev_opt, ev_seq, so_nx, so_ret, so_exc, ev_skip, ev_ifS, ao_some, ev_asg, ev_gN, ev_nob, sn_no, sn_val, sn_own, ev_own, ev_par, ev_gTl0, ev_gTl1, ev_gT, ev_ret, ev_retF, ev_expr, ev_raise, ev_for, ev_iter, ev_iterA, ev_sl, ev_noP, ev_partC, dr_slot, sr_own, sr_bor, sr_ownD, dr_non, dr_bl, dr_int, dr_str, dr_tup, dr_lst, dr_ro, dr_dic, dr_raw, u_non, u_bl, u_int, u_str, u_tup, u_lst, u_ro, u_dic, u_raw, tr_bl, ixA_lst, ixA_ro, ixA_tup, ixA_str, gt_int, ge_int, lt_int, le_int, add_int, sub_int, int_int, eq_int, List.getElem?_cons_zero, List.getElem?_cons_succ, List.set_cons_zero, List.set_cons_succ, List.map_cons, List.map_nil, List.all_cons, List.all_nil, Bool.and_self, Bool.and_true, Bool.true_and, and_self, and_true, true_and, if_true, if_false, ite_true, ite_false, Option.bind_some, Bool.false_eq_true, decide_true, decide_false, Bool.not_true, Bool.not_false, h3]) e
theorem cut_ints (ns : List Int) (hi : Option Int) : slD (.ro (ns.map D.int)) none hi = some (.lst ((((ns.drop 0).take (HT.sIx ns.length ns.length hi - 0))).map D.int)) := by
  show some (D.lst (cutD (ns.map D.int) none hi)) = _
  unfold cutD
  simp only [HT.sIx_none, List.length_map, List.map_take, List.map_drop]
def edgeL : List D := [.non, .bl false, .bl true, .int 0, .int 1, .int (-1), .int 9, .int (-9), .int 10, .int (-10), .int 99, .int (-99), .int (1000000000000000000000000000000 - 1), .int (1 - 1000000000000000000000000000000), .int 100000000000000000000000000000, .int (0 - 100000000000000000000000000000)] ++ [.str (S []), .str (S [32]), .str (S [33]), .str (S [33, 97]), .str (S [33, 98]), .str (S [32, 97]), .str (S [48]), .str (S [116]), .str (S [111]), .str (S (List.replicate 200 97)), .str (S (List.replicate 200 32)), .str (S (List.replicate 200 33)), .str (S sgL)]
theorem edge_ok : ∀ d ∈ edgeL, ValP d := by
  have hi : ∀ i : Int, -1000000000000000000000000000000 < i → i < 1000000000000000000000000000000 → ValP (.int i) := fun i h1 h2 => .inr (.inr (.inl ⟨i, rfl, h1, h2⟩))
  have ht : ∀ l : List Nat, l.length ≤ 200 → (∀ k ∈ l, 32 ≤ k ∧ k ≤ 126) → ValP (.str (S l)) := fun l h1 h2 => .inr (.inr (.inr ⟨l, rfl, h1, h2⟩))
  intro d hd
  simp only [edgeL, List.cons_append, List.nil_append, List.mem_cons, List.not_mem_nil, or_false] at hd
  rcases hd with rfl | rfl | rfl | rfl | rfl | rfl | rfl | rfl | rfl | rfl | rfl | rfl | rfl | rfl | rfl | rfl | rfl | rfl | rfl | rfl | rfl | rfl | rfl | rfl | rfl | rfl | rfl | rfl | rfl
  · exact .inl rfl
  · exact .inr (.inl ⟨_, rfl⟩)
  · exact .inr (.inl ⟨_, rfl⟩)
  iterate 13 exact hi _ (by decide) (by decide)
  iterate 9 exact ht _ (by decide) (by decide)
  iterate 3 exact ht _ (by rw [List.length_replicate]; decide) (fun k hk => by rw [(List.mem_replicate.mp hk).2]; decide)
  exact ht _ (by decide) (by decide)
theorem str_bas : ("!a" : PySem.Str) = S [33, 97] := str_ea
theorem str_sa : (" a" : PySem.Str) = S [32, 97] := by decide +kernel
theorem str_o : ("o" : PySem.Str) = S [111] := by decide +kernel
theorem law_true : ∀ ns : List Int, ns.length ≤ 63 → ∃ δ, law_D (Slot.val (.ro (ns.map D.int)) :: List.replicate (6 - 1) Slot.no) = .ret (.val (.bl true)) δ := by
  intro ns hn
  show ∃ δ, law_D [.val (.ro (ns.map D.int)), .no, .no, .no, .no, .no] = _
  obtain ⟨s2, h2, ee⟩ := edges_loop (s0 := .val (.ro (ns.map D.int))) (s1 := .val (.lst edgeL)) (s3 := .no) (s4 := .no) (s5 := .no) edgeL .no rfl edge_ok
  have ec := cut_ints ns (some 40)
  generalize hM : (ns.drop 0).take (HT.sIx ns.length ns.length (some 40) - 0) = ms at ec
  have lM : ms.length ≤ 63 := by rw [← hM, List.length_take]; simp; omega
  obtain ⟨u2, u3, u4, u5, el⟩ := cells_loop (s0 := .val (.ro (ns.map D.int))) (s1 := .val (.lst edgeL)) (7 :: ms) s2 .no .no .no h2 rfl rfl rfl
  have p30 : powD (.int 10) (.int 30) = some (.int 1000000000000000000000000000000) := rfl
  have p29 : powD (.int 10) (.int 29) = some (.int 100000000000000000000000000000) := rfl
  have n1 : negD (.int 1) = some (.int (-1)) := rfl
  have n9 : negD (.int 9) = some (.int (-9)) := rfl
  have n10 : negD (.int 10) = some (.int (-10)) := rfl
  have n99 : negD (.int 99) = some (.int (-99)) := rfl
  have q1 : mulD (.str (S [97])) (.int 200) = some (.str (S (List.replicate 200 97))) := mul_S 97 200 (by decide) (by decide)
  have q2 : mulD (.str (S [32])) (.int 200) = some (.str (S (List.replicate 200 32))) := mul_S 32 200 (by decide) (by decide)
  have q3 : mulD (.str (S [33])) (.int 200) = some (.str (S (List.replicate 200 33))) := mul_S 33 200 (by decide) (by decide)
  have hl16 : (16 : Nat) ≤ sizeLine := by rw [sizeLine_eq]; decide
  have hl13 : (13 : Nat) ≤ sizeLine := by rw [sizeLine_eq]; decide
  have hl1 : (1 : Nat) ≤ sizeLine := szL.1
  have fe : addD (.lst [.non, .bl false, .bl true, .int 0, .int 1, .int (-1), .int 9, .int (-9), .int 10, .int (-10), .int 99, .int (-99), .int (1000000000000000000000000000000 - 1), .int (1 - 1000000000000000000000000000000), .int 100000000000000000000000000000, .int (0 - 100000000000000000000000000000)]) (.lst [.str (S []), .str (S [32]), .str (S [33]), .str (S [33, 97]), .str (S [33, 98]), .str (S [32, 97]), .str (S [48]), .str (S [116]), .str (S [111]), .str (S (List.replicate 200 97)), .str (S (List.replicate 200 32)), .str (S (List.replicate 200 33)), .str (S sgL)]) = some (.lst edgeL) := addD_lst (by show 16 + 13 ≤ 16777216; decide)
  have fm : addD (.lst [.int 7]) (.lst (ms.map D.int)) = some (.lst ((7 :: ms).map D.int)) := addD_lst (by rw [List.length_map]; show 1 + _ ≤ _; omega)
  have i1 : iterD (.lst edgeL) = some edgeL := rfl
  have i2 : iterD (.lst ((7 :: ms).map D.int)) = some ((7 :: ms).map D.int) := rfl
  refine ⟨[.val (.ro (ns.map D.int)), .val (.lst edgeL), u2, u3, u4, u5], ?_⟩
  have go : ∀ o, seqO (mFor (mIter (mV 1)) (gN 2) eBody [.val (.ro (ns.map D.int)), .val (.lst edgeL), .no, .no, .no, .no]) (mSeq (mFor (mIter (m2 addD (mLst (mCons (mC (.int 7)) mNil)) (mSl (mV 0) mNoPart (mPart (mC (.int 40)))))) (gN 3) lBody) (mRet (mC (.bl true)))) = o → law_D [.val (.ro (ns.map D.int)), .no, .no, .no, .no, .no] = o := by
    intro o ho
    rw [← ho]
    have a1 : ∀ (m : ME) (rest : MS) (d : D) (δ δ' : Dl) (i : Nat), m δ = .ok d δ → gN i d δ = some δ' → mSeq (mAsg m (gN i)) rest δ = rest δ' := by
      intro m rest d δ δ' i h1 h2
      simp only [ev_seq, ev_asg, h1, ev_out, h2, ao_some, so_nx]
    unfold law_D
    rw [a1 _ _ (.lst [.non, .bl false, .bl true, .int 0, .int 1, .int (-1), .int 9, .int (-9), .int 10, .int (-10), .int 99, .int (-99), .int (1000000000000000000000000000000 - 1), .int (1 - 1000000000000000000000000000000), .int 100000000000000000000000000000, .int (0 - 100000000000000000000000000000)]) _ [.val (.ro (ns.map D.int)), .val (.lst [.non, .bl false, .bl true, .int 0, .int 1, .int (-1), .int 9, .int (-9), .int 10, .int (-10), .int 99, .int (-99), .int (1000000000000000000000000000000 - 1), .int (1 - 1000000000000000000000000000000), .int 100000000000000000000000000000, .int (0 - 100000000000000000000000000000)]), .no, .no, .no, .no] 1 (by simp only [ev_setix, sa_lst, sb_lst, ixN_j0, ixN_j1, ev_getR, sg_own, sg_bor, ev_putR, sp_own, sp_bor, so_some, ev_C, ev_V, sv_val, sv_own, sv_bor, ev_1, ev_2, ev_nil, ev_cons, ev_A, ev_If, ev_T, ev_Or, ev_And, ev_Not, ev_TOr, ev_TAnd, ev_TNot, ev_Tup, ev_Lst, ev_LstF, ev_Fz, ev_Str1C, ev_bind, ev_bindX, ev_out, ev_outX, ev_opt, ev_seq, so_nx, so_ret, so_exc, ev_skip, ev_ifS, ao_some, ev_asg, ev_gN, ev_nob, sn_no, sn_val, sn_own, ev_own, ev_par, ev_gTl0, ev_gTl1, ev_gT, ev_ret, ev_retF, ev_expr, ev_raise, ev_for, ev_iter, ev_iterA, ev_sl, ev_noP, ev_partC, dr_slot, sr_own, sr_bor, sr_ownD, dr_non, dr_bl, dr_int, dr_str, dr_tup, dr_lst, dr_ro, dr_dic, dr_raw, u_non, u_bl, u_int, u_str, u_tup, u_lst, u_ro, u_dic, u_raw, tr_bl, ixA_lst, ixA_ro, ixA_tup, ixA_str, gt_int, ge_int, lt_int, le_int, add_int, sub_int, int_int, eq_int, List.getElem?_cons_zero, List.getElem?_cons_succ, List.set_cons_zero, List.set_cons_succ, List.map_cons, List.map_nil, List.all_cons, List.all_nil, Bool.and_self, Bool.and_true, Bool.true_and, and_self, and_true, true_and, if_true, if_false, ite_true, ite_false, Option.bind_some, Bool.false_eq_true, decide_true, decide_false, Bool.not_true, Bool.not_false, n1, n9, n10, n99, p30, p29, List.length_cons, List.length_nil, Nat.reduceAdd, hl16]) rfl]
    rw [a1 _ _ (.lst edgeL) _ [.val (.ro (ns.map D.int)), .val (.lst edgeL), .no, .no, .no, .no] 1 (by simp only [ev_setix, sa_lst, sb_lst, ixN_j0, ixN_j1, ev_getR, sg_own, sg_bor, ev_putR, sp_own, sp_bor, so_some, ev_C, ev_V, sv_val, sv_own, sv_bor, ev_1, ev_2, ev_nil, ev_cons, ev_A, ev_If, ev_T, ev_Or, ev_And, ev_Not, ev_TOr, ev_TAnd, ev_TNot, ev_Tup, ev_Lst, ev_LstF, ev_Fz, ev_Str1C, ev_bind, ev_bindX, ev_out, ev_outX, ev_opt, ev_seq, so_nx, so_ret, so_exc, ev_skip, ev_ifS, ao_some, ev_asg, ev_gN, ev_nob, sn_no, sn_val, sn_own, ev_own, ev_par, ev_gTl0, ev_gTl1, ev_gT, ev_ret, ev_retF, ev_expr, ev_raise, ev_for, ev_iter, ev_iterA, ev_sl, ev_noP, ev_partC, dr_slot, sr_own, sr_bor, sr_ownD, dr_non, dr_bl, dr_int, dr_str, dr_tup, dr_lst, dr_ro, dr_dic, dr_raw, u_non, u_bl, u_int, u_str, u_tup, u_lst, u_ro, u_dic, u_raw, tr_bl, ixA_lst, ixA_ro, ixA_tup, ixA_str, gt_int, ge_int, lt_int, le_int, add_int, sub_int, int_int, eq_int, List.getElem?_cons_zero, List.getElem?_cons_succ, List.set_cons_zero, List.set_cons_succ, List.map_cons, List.map_nil, List.all_cons, List.all_nil, Bool.and_self, Bool.and_true, Bool.true_and, and_self, and_true, true_and, if_true, if_false, ite_true, ite_false, Option.bind_some, Bool.false_eq_true, decide_true, decide_false, Bool.not_true, Bool.not_false, str_no, str_sp, str_ex, str_ea, str_eb, str_sa, str_0, str_t, str_o, str_a, q1, q2, q3, signs_call, List.length_cons, List.length_nil, Nat.reduceAdd, hl13, fe]) rfl]
    exact ev_seq
  apply go
  have f1 : mFor (mIter (mV 1)) (gN 2) eBody [.val (.ro (ns.map D.int)), .val (.lst edgeL), .no, .no, .no, .no] = .nx [.val (.ro (ns.map D.int)), .val (.lst edgeL), s2, .no, .no, .no] := by
    rw [ev_for]
    have : mIter (mV 1) [.val (.ro (ns.map D.int)), .val (.lst edgeL), .no, .no, .no, .no] = .ok edgeL [.val (.ro (ns.map D.int)), .val (.lst edgeL), .no, .no, .no, .no] := rfl
    rw [this, ev_out]
    exact ee
  have f2 : mFor (mIter (m2 addD (mLst (mCons (mC (.int 7)) mNil)) (mSl (mV 0) mNoPart (mPart (mC (.int 40)))))) (gN 3) lBody [.val (.ro (ns.map D.int)), .val (.lst edgeL), s2, .no, .no, .no] = .nx [.val (.ro (ns.map D.int)), .val (.lst edgeL), u2, u3, u4, u5] := by
    rw [ev_for]
    have : mIter (m2 addD (mLst (mCons (mC (.int 7)) mNil)) (mSl (mV 0) mNoPart (mPart (mC (.int 40))))) [.val (.ro (ns.map D.int)), .val (.lst edgeL), s2, .no, .no, .no] = .ok ((7 :: ms).map D.int) [.val (.ro (ns.map D.int)), .val (.lst edgeL), s2, .no, .no, .no] := by
      simp only [ev_setix, sa_lst, sb_lst, ixN_j0, ixN_j1, ev_getR, sg_own, sg_bor, ev_putR, sp_own, sp_bor, so_some, ev_C, ev_V, sv_val, sv_own, sv_bor, ev_1, ev_2, ev_nil, ev_cons, ev_A, ev_If, ev_T, ev_Or, ev_And, ev_Not, ev_TOr, ev_TAnd, ev_TNot, ev_Tup, ev_Lst, ev_LstF, ev_Fz, ev_Str1C, ev_bind, ev_bindX, ev_out, ev_outX, ev_opt, ev_seq, so_nx, so_ret, so_exc, ev_skip, ev_ifS, ao_some, ev_asg, ev_gN, ev_nob, sn_no, sn_val, sn_own, ev_own, ev_par, ev_gTl0, ev_gTl1, ev_gT, ev_ret, ev_retF, ev_expr, ev_raise, ev_for, ev_iter, ev_iterA, ev_sl, ev_noP, ev_partC, dr_slot, sr_own, sr_bor, sr_ownD, dr_non, dr_bl, dr_int, dr_str, dr_tup, dr_lst, dr_ro, dr_dic, dr_raw, u_non, u_bl, u_int, u_str, u_tup, u_lst, u_ro, u_dic, u_raw, tr_bl, ixA_lst, ixA_ro, ixA_tup, ixA_str, gt_int, ge_int, lt_int, le_int, add_int, sub_int, int_int, eq_int, List.getElem?_cons_zero, List.getElem?_cons_succ, List.set_cons_zero, List.set_cons_succ, List.map_cons, List.map_nil, List.all_cons, List.all_nil, Bool.and_self, Bool.and_true, Bool.true_and, and_self, and_true, true_and, if_true, if_false, ite_true, ite_false, Option.bind_some, Bool.false_eq_true, decide_true, decide_false, Bool.not_true, Bool.not_false, List.length_cons, List.length_nil, Nat.reduceAdd, hl1, ec]
      rw [fm]
      rfl
    rw [this, ev_out]
    exact el
  rw [f1, so_nx, ev_seq, f2, so_nx]
  rfl
end DL
open PySem PySem.W PyProof.Rows in
set_option maxRecDepth 100000 in
set_option maxHeartbeats 0 in
theorem PySem.Challenge.cw_heldpasts_k21_value_codes_holds : PySem.Challenge.rw_heldpasts_k21_value_codes.Holds := by
  w_on; o_law; k_head; (case hw => w_witness2)
  k_fill
  refine DL.walkD (l := PySem.Challenge.rw_heldpasts_k21_value_codes) (n := 63) (k := 5) (m := 6) (st := DL.top 30) (x := ("_law_script" : PySem.Str)) (body := DL.law_D) rfl (by decide) rfl ⟨rfl, by decide, by decide⟩ (fun w h Y => PySem.W.kIn_of Y) ?F ?B DL.law_true
  case B =>
    intro fd hF s u
    obtain ⟨_, _, F⟩ := hF
    obtain ⟨_, _, _, _, _, _, _, _, _, rfl, _, _⟩ := F.ex
    exact .of_eq rfl
  case F =>
    intro w mg h KX G XP base b1 b2
    refine DL.ok_law ?T
    refine ⟨?d__law_jar, ?d__law_drawn, ?d__law_number, ?d__law_signs, ?d__law_text, ?d__law_value, ?d_number_code, ?d_text_code, ?d_code_of, ?d_is_integer, ?d_is_text, ?d_is_value, ?d_value_code, ?d__law_told, ?d__law_code, ?d__law_bent, ?d_law, ?b_abs, ?b_all, ?b_bool, ?b_int, ?b_isinstance, ?b_len, ?b_max, ?b_range, ?b_str, ?b_tuple, ?c_COUNTS, ?c_END, ?c_GREATEST_SIGN, ?c_LEAST_SIGN, ?c_MARK, ?c_MOST_FIGURES, ?c_MOST_INTEGER, ?c_MOST_SIGNS, ?x_InvalidValue, ?g_InvalidValue, ?g_StoreError, ?e_InvalidValue_InvalidValue⟩
    case d__law_jar => (refine' DL.def_mk KX G ?a ?l ?c ?k; (case a => k_is); (case l => k_is); (case c => k_is); (case k => k_is))
    case d__law_drawn => (refine' DL.def_mk KX G ?a ?l ?c ?k; (case a => k_is); (case l => k_is); (case c => k_is); (case k => k_is))
    case d__law_number => (refine' DL.def_mk KX G ?a ?l ?c ?k; (case a => k_is); (case l => k_is); (case c => k_is); (case k => k_is))
    case d__law_signs => (refine' DL.def_mk KX G ?a ?l ?c ?k; (case a => k_is); (case l => k_is); (case c => k_is); (case k => k_is))
    case d__law_text => (refine' DL.def_mk KX G ?a ?l ?c ?k; (case a => k_is); (case l => k_is); (case c => k_is); (case k => k_is))
    case d__law_value => (refine' DL.def_mk KX G ?a ?l ?c ?k; (case a => k_is); (case l => k_is); (case c => k_is); (case k => k_is))
    case d_number_code => (refine' DL.def_mk KX G ?a ?l ?c ?k; (case a => k_is); (case l => k_is); (case c => k_is); (case k => k_is))
    case d_text_code => (refine' DL.def_mk KX G ?a ?l ?c ?k; (case a => k_is); (case l => k_is); (case c => k_is); (case k => k_is))
    case d_code_of => (refine' DL.def_mk KX G ?a ?l ?c ?k; (case a => k_is); (case l => k_is); (case c => k_is); (case k => k_is))
    case d_is_integer => (refine' DL.def_mk KX G ?a ?l ?c ?k; (case a => k_is); (case l => k_is); (case c => k_is); (case k => k_is))
    case d_is_text => (refine' DL.def_mk KX G ?a ?l ?c ?k; (case a => k_is); (case l => k_is); (case c => k_is); (case k => k_is))
    case d_is_value => (refine' DL.def_mk KX G ?a ?l ?c ?k; (case a => k_is); (case l => k_is); (case c => k_is); (case k => k_is))
    case d_value_code => (refine' DL.def_mk KX G ?a ?l ?c ?k; (case a => k_is); (case l => k_is); (case c => k_is); (case k => k_is))
    case d__law_told => (refine' DL.def_mk KX G ?a ?l ?c ?k; (case a => k_is); (case l => k_is); (case c => k_is); (case k => k_is))
    case d__law_code => (refine' DL.def_mk KX G ?a ?l ?c ?k; (case a => k_is); (case l => k_is); (case c => k_is); (case k => k_is))
    case d__law_bent => (refine' DL.def_mk KX G ?a ?l ?c ?k; (case a => k_is); (case l => k_is); (case c => k_is); (case k => k_is))
    case d_law => (refine' DL.def_mk KX G ?a ?l ?c ?k; (case a => k_is); (case l => k_is); (case c => k_is); (case k => k_is))
    case b_abs => (refine' PySem.W.mg_none_of KX G ?z; (case z => k_is))
    case b_all => (refine' PySem.W.mg_none_of KX G ?z; (case z => k_is))
    case b_bool => (refine' PySem.W.mg_none_of KX G ?z; (case z => k_is))
    case b_int => (refine' PySem.W.mg_none_of KX G ?z; (case z => k_is))
    case b_isinstance => (refine' PySem.W.mg_none_of KX G ?z; (case z => k_is))
    case b_len => (refine' PySem.W.mg_none_of KX G ?z; (case z => k_is))
    case b_max => (refine' PySem.W.mg_none_of KX G ?z; (case z => k_is))
    case b_range => (refine' PySem.W.mg_none_of KX G ?z; (case z => k_is))
    case b_str => (refine' PySem.W.mg_none_of KX G ?z; (case z => k_is))
    case b_tuple => (refine' PySem.W.mg_none_of KX G ?z; (case z => k_is))
    case c_COUNTS => (refine' DL.con_s KX G ?z; (case z => k_is))
    case c_END => (refine' DL.con_s KX G ?z; (case z => k_is))
    case c_GREATEST_SIGN => (refine' DL.con_s KX G ?z; (case z => k_is))
    case c_LEAST_SIGN => (refine' DL.con_s KX G ?z; (case z => k_is))
    case c_MARK => (refine' DL.con_s KX G ?z; (case z => k_is))
    case c_MOST_FIGURES => (refine' DL.con_i KX G ?z; (case z => k_is))
    case c_MOST_INTEGER => exact DL.law_int XP.2 (by first | exact .head _ | exact .tail _ (.head _) | exact .tail _ (.tail _ (.head _)))
    case c_MOST_SIGNS => (refine' DL.con_i KX G ?z; (case z => k_is))
    case x_InvalidValue => (refine' DL.exc_mk PySem.F.excBase_ValueError KX G ?za ?zq ?zk ?zs ?zt; (case za => k_is); (case zq => k_exc); (case zk => k_is); (case zs => k_is); (case zt => k_is))
    case g_InvalidValue => (refine' DL.con_g KX G ?z; (case z => k_is))
    case g_StoreError => (refine' DL.con_g KX G ?z; (case z => k_is))
    case e_InvalidValue_InvalidValue => (refine' DL.exm_mk2 KX G ?za ?zb ?z1 ?z2 ?z3 ?z4; (case za => k_is); (case zb => k_is); (case z1 => k_is); (case z2 => k_is); (case z3 => k_is); (case z4 => k_is))
