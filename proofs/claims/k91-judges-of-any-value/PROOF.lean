import PyProof.Rows.All
import Wide.All
import OpenK.AllK
import Wide.FinOn
import PySem.Challenge.RW_halftyped_k91_whole_values_that_are_no_c
import HandS.ForMost
import HandS.Exc
import HandS.CallSlots
import HandS.ExcOwn
import HandS.Words
import HandS.Defaults
import HandS.Head0
import HandS.Head1
import HandS.Head2
import HandS.HeadEnd
import HandS.HeadHook1
import HandS.HeadHook2
import HandS.HeadHook3
import PyProof.ListMulRoad
import PyProof.FactsAll.tuple_2
import HandS.Base
import HandS.Call
import HandS.List
import HandS.TupMul
import HandS.Deep
import HandS.IsInst
import HandS.Style
import HandS.TupAny
import HandS.TupSets
import HandS.Zip
import HandS.More
set_option Elab.async false
set_option linter.all false
set_option maxRecDepth 100000
/-! P3A: data of a small Python, what stands for them in the hand layer's heap -/
namespace P3
open PySem L2
inductive D where
  | non | bl (b : Bool) | int (i : Int) | str (s : String)
  | tup (xs : List D) | fl (xs : List D) | fd (kvs : List (D × D)) | loc (l : Nat) | fn (x : String)
  deriving Inhabited
/-- what a container holds -/
inductive Ct where
  | lst (xs : List D) | dict (kvs : List (D × D))
def Ct.toD : Ct → D
  | .lst xs => .fl xs
  | .dict kvs => .fd kvs
inductive Slot where
  | val (d : D) | own (c : Ct)
inductive MO where
  | ct (c : Ct) | inst (cls : String) (fs : List (String × Slot))
abbrev Mem := List MO
abbrev Tau := List (Option Slot)
inductive Rv where
  | val (d : D) | own (c : Ct)
def Rv.toD : Rv → D
  | .val d => d
  | .own c => c.toD
def Rv.slot : Rv → Slot
  | .val d => .val d
  | .own c => .own c
structure Exn where
  cls : String
  fs : List (String × D)
inductive Out (α : Type) where
  | stuck | ok (a : α) (m : Mem) | exc (e : Exn) (m : Mem)
def Out.bind {α β : Type} (o : Out α) (k : α → Mem → Out β) : Out β := match o with
  | .stuck => .stuck
  | .ok a m => k a m
  | .exc e m => .exc e m
/-- who owns a container -/
inductive Own where
  | loc (l : Nat) | fld (l : Nat) (f : String) | slot (i : Nat)
  deriving DecidableEq
/-- the ghost: what never changes any more; where the owned ones stand -/
structure Gh where
  fz : Addr → Option HO
  ow : Own → Option Addr
section
variable (K : PySem.W.Frag)
/-- a written tuple of the module -/
def KT (a : Addr) (xs : List V) : Prop := ∃ (o : Obj) (its : Array Value) (n : Nat), K.lookup a = some o ∧ o.cls = .type "tuple" ∧ o.data = .seq its n ∧ its.size ≤ sizeLine ∧ Vals xs its.toList
inductive KeyR : Key → D → Prop
  | int (i : Int) : KeyR (.inl i) (.int i)
  | str (s : String) : KeyR (.inr (Str.ofString s)) (.str s)
/-- a function of the module -/
def FnAt (a : Addr) (x : String) : Prop := PySem.W.nsIn K mainGlobals (Str.ofString x) = some (some (.ref a)) ∧ PySem.W.keepIn K (.ref a) = true
mutual
inductive VR (g : Gh) : V → D → Prop
  | non : VR g .non .non
  | bl (b : Bool) : VR g (.bl b) (.bl b)
  | int (i : Int) : VR g (.int i) (.int i)
  | str (s : String) : VR g (.str (Str.ofString s)) (.str s)
  | tup {a : Addr} {vs : List V} {ds : List D} : (g.fz a = some (.tup vs) ∨ KT K a vs) → VRs g vs ds → VR g (.ref a) (.tup ds)
  | fl {a : Addr} {vs : List V} {ds : List D} : (g.fz a = some (.lst vs) ∨ ∃ o, g.fz a = some (.frz o (.lst vs))) → VRs g vs ds → VR g (.ref a) (.fl ds)
  | fd {a : Addr} {kvs : List (Key × V)} {kds : List (D × D)} : g.fz a = some (.dK kvs) → KVs g kvs kds → VR g (.ref a) (.fd kds)
  | loc {a : Addr} {l : Nat} : g.ow (.loc l) = some a → VR g (.ref a) (.loc l)
  | fn {a : Addr} {x : String} : FnAt K a x → VR g (.ref a) (.fn x)
inductive VRs (g : Gh) : List V → List D → Prop
  | nil : VRs g [] []
  | cons {v : V} {d : D} {vs : List V} {ds : List D} : VR g v d → VRs g vs ds → VRs g (v :: vs) (d :: ds)
inductive KVs (g : Gh) : List (Key × V) → List (D × D) → Prop
  | nil : KVs g [] []
  | cons {k : Key} {kd : D} {v : V} {d : D} {kvs : List (Key × V)} {kds : List (D × D)} : KeyR k kd → VR g v d → KVs g kvs kds → KVs g ((k, v) :: kvs) ((kd, d) :: kds)
end
end
/-- the ghost grows -/
structure Gh.le (g g' : Gh) : Prop where
  fz : ∀ a o, g.fz a = some o → g'.fz a = some o
  loc : ∀ l a, g.ow (.loc l) = some a → g'.ow (.loc l) = some a
theorem Gh.le.refl {g : Gh} : g.le g := ⟨fun _ _ h => h, fun _ _ h => h⟩
theorem Gh.le.trans {g g' g'' : Gh} (h : g.le g') (h' : g'.le g'') : g.le g'' := ⟨fun a o e => h'.fz a o (h.fz a o e), fun l a e => h'.loc l a (h.loc l a e)⟩
section
variable {K : PySem.W.Frag} {g g' : Gh}
mutual
theorem VR.mono (h : g.le g') : ∀ {v : V} {d : D}, VR K g v d → VR K g' v d
  | _, _, .non => .non
  | _, _, .bl b => .bl b
  | _, _, .int i => .int i
  | _, _, .str s => .str s
  | _, _, .tup a r => .tup (a.imp (h.fz _ _) id) (VRs.mono h r)
  | _, _, .fl a r => .fl (a.imp (h.fz _ _) (fun ⟨o, e⟩ => ⟨o, h.fz _ _ e⟩)) (VRs.mono h r)
  | _, _, .fd a r => .fd (h.fz _ _ a) (KVs.mono h r)
  | _, _, .loc a => .loc (h.loc _ _ a)
  | _, _, .fn a => .fn a
theorem VRs.mono (h : g.le g') : ∀ {vs : List V} {ds : List D}, VRs K g vs ds → VRs K g' vs ds
  | _, _, .nil => .nil
  | _, _, .cons r t => .cons (VR.mono h r) (VRs.mono h t)
theorem KVs.mono (h : g.le g') : ∀ {kvs : List (Key × V)} {kds : List (D × D)}, KVs K g kvs kds → KVs K g' kvs kds
  | _, _, .nil => .nil
  | _, _, .cons k r t => .cons k (VR.mono h r) (KVs.mono h t)
end
theorem VRs.length : ∀ {vs : List V} {ds : List D}, VRs K g vs ds → vs.length = ds.length
  | _, _, .nil => rfl
  | _, _, .cons _ t => congrArg (· + 1) (VRs.length t)
theorem VRs.get : ∀ {vs : List V} {ds : List D} {i : Nat} {d : D}, VRs K g vs ds → ds[i]? = some d → ∃ v, vs[i]? = some v ∧ VR K g v d
  | _, _, _, _, .nil, e => by simp at e
  | _, _, 0, _, .cons r _, e => by simp at e; subst e; exact ⟨_, rfl, r⟩
  | _, _, i + 1, d, .cons _ t, e => by
    obtain ⟨v, h1, h2⟩ := VRs.get (i := i) (d := d) t (by simpa using e)
    exact ⟨v, by simpa using h1, h2⟩
theorem VRs.append : ∀ {vs ws : List V} {ds es : List D}, VRs K g vs ds → VRs K g ws es → VRs K g (vs ++ ws) (ds ++ es)
  | _, _, _, _, .nil, s => s
  | _, _, _, _, .cons r t, s => .cons r (VRs.append t s)
theorem VRs.drop : ∀ {vs : List V} {ds : List D} (n : Nat), VRs K g vs ds → VRs K g (vs.drop n) (ds.drop n)
  | _, _, 0, r => r
  | _, _, _ + 1, .nil => .nil
  | _, _, n + 1, .cons _ t => VRs.drop n t
theorem VRs.take : ∀ {vs : List V} {ds : List D} (n : Nat), VRs K g vs ds → VRs K g (vs.take n) (ds.take n)
  | _, _, 0, _ => .nil
  | _, _, _ + 1, .nil => .nil
  | _, _, n + 1, .cons r t => .cons r (VRs.take n t)
theorem VRs.set {v : V} {d : D} (r : VR K g v d) : ∀ {vs : List V} {ds : List D} (i : Nat), VRs K g vs ds → VRs K g (vs.set i v) (ds.set i d)
  | _, _, _, .nil => .nil
  | _, _, 0, .cons _ t => .cons r t
  | _, _, i + 1, .cons q t => .cons q (VRs.set r i t)
theorem VRs.one {v : V} {d : D} (r : VR K g v d) : VRs K g [v] [d] := .cons r .nil
theorem VRs.dropLast {vs : List V} {ds : List D} (h : VRs K g vs ds) : VRs K g vs.dropLast ds.dropLast := by
  have e := h.length
  rw [List.dropLast_eq_take, List.dropLast_eq_take, e]
  exact h.take _
theorem VRs.eraseIdx : ∀ {vs : List V} {ds : List D} (i : Nat), VRs K g vs ds → VRs K g (vs.eraseIdx i) (ds.eraseIdx i)
  | _, _, _, .nil => .nil
  | _, _, 0, .cons _ t => t
  | _, _, i + 1, .cons r t => .cons r (VRs.eraseIdx i t)
end
/-! ### the heap and the state -/
section
variable (K : PySem.W.Frag) (cla : String → Addr)
/-- a container at a -/
def CR (H : Hp) (g : Gh) (a : Addr) : Ct → Prop
  | .lst xs => ∃ vs, H a = some (.lst vs) ∧ VRs K g vs xs
  | .dict kvs => ∃ kv, H a = some (.dK kv) ∧ KVs K g kv kvs
/-- a slot's or a field's value -/
def SlR (H : Hp) (g : Gh) (w : Own) (v : V) : Slot → Prop
  | .val d => VR K g v d
  | .own c => ∃ a, v = .ref a ∧ g.ow w = some a ∧ CR K H g a c
inductive FsR (H : Hp) (g : Gh) (l : Nat) : List (Str × V) → List (String × Slot) → Prop
  | nil : FsR H g l [] []
  | cons {f : String} {v : V} {s : Slot} {fv : List (Str × V)} {fs : List (String × Slot)} : SlR K H g (.fld l f) v s → FsR H g l fv fs → FsR H g l ((Str.ofString f, v) :: fv) ((f, s) :: fs)
def OR (H : Hp) (g : Gh) (l : Nat) : MO → Prop
  | .ct c => ∃ a, g.ow (.loc l) = some a ∧ CR K H g a c
  | .inst cls fs => ∃ a dx fv, g.ow (.loc l) = some a ∧ H a = some (.ins (cla cls) dx fv) ∧ FsR K H g l fv fs ∧ (fs.map (·.1)).Nodup ∧ fs.length < 900
structure SH (H : Hp) (g : Gh) (m : Mem) : Prop where
  fz : ∀ a o, g.fz a = some o → H a = some o
  inj : ∀ w w' a, g.ow w = some a → g.ow w' = some a → w = w'
  nfz : ∀ w a, g.ow w = some a → g.fz a = none
  trk : ∀ w a, g.ow w = some a → H a ≠ none
  obj : ∀ (l : Nat) (o : MO), m[l]? = some o → OR K cla H g l o
  dom : ∀ l a, g.ow (.loc l) = some a → l < m.length
  domf : ∀ l f a, g.ow (.fld l f) = some a → l < m.length
structure SR (H : Hp) (g : Gh) (σ : St) (τ : Tau) (m : Mem) : Prop extends SH K cla H g m where
  len : σ.length = τ.length
  slot : ∀ (i : Nat) (s : Slot), τ[i]? = some (some s) → ∃ v, σ[i]? = some (some v) ∧ SlR K H g (.slot i) v s
end
/-- what a run keeps -/
structure Ext (H : Hp) (g : Gh) (H' : Hp) (g' : Gh) : Prop where
  le : g.le g'
  keep : ∀ a o, H a = some o → (∀ w, g.ow w ≠ some a) → H' a = some o
  there : ∀ a, H a ≠ none → H' a ≠ none
  new : ∀ w a, g'.ow w = some a → (∃ w0, g.ow w0 = some a) ∨ H a = none
  nfr : ∀ a, g'.fz a ≠ none → g.fz a ≠ none ∨ H a = none ∨ ∃ w, g.ow w = some a
theorem Ext.refl {H : Hp} {g : Gh} : Ext H g H g := ⟨.refl, fun _ _ h _ => h, fun _ h => h, fun w _ h => .inl ⟨w, h⟩, fun _ h => .inl h⟩
theorem Ext.trans {H H1 H2 : Hp} {g g1 g2 : Gh} (h : Ext H g H1 g1) (h' : Ext H1 g1 H2 g2) : Ext H g H2 g2 where
  le := h.le.trans h'.le
  keep := fun a o e n => h'.keep a o (h.keep a o e n) fun w q => (h.new w a q).elim (fun ⟨w0, q0⟩ => n w0 q0) fun z => by rw [e] at z; cases z
  there := fun a e => h'.there a (h.there a e)
  new := fun w a e => (h'.new w a e).elim (fun ⟨w0, q⟩ => h.new w0 a q) fun z => .inr (Classical.byContradiction fun q => h.there a q z)
  nfr := fun a e => by
    rcases h'.nfr a e with z | z | ⟨w, q⟩
    · exact h.nfr a z
    · exact .inr (.inl (Classical.byContradiction fun q => h.there a q z))
    · rcases h.new w a q with z | z
      · exact .inr (.inr z)
      · exact .inr (.inl z)
section
variable {K : PySem.W.Frag} {cla : String → Addr} {H H' : Hp} {g g' : Gh} {m : Mem} {σ : St} {τ : Tau}
/-- what is read: a tuple, a list that stands -/
theorem SH.tupR (S : SH K cla H g m) {a : Addr} {vs : List V} (h : g.fz a = some (.tup vs) ∨ KT K a vs) : SqT K H a vs := h.elim (fun e => .inl (.inl (S.fz _ _ e))) .inr
theorem SH.lstR (S : SH K cla H g m) {a : Addr} {vs : List V} (h : g.fz a = some (.lst vs) ∨ ∃ o, g.fz a = some (.frz o (.lst vs))) : Rd H a (.lst vs) :=
  h.elim (fun e => .inl (S.fz _ _ e)) fun ⟨o, e⟩ => .inr ⟨o, S.fz _ _ e⟩
theorem CR.mono {a : Addr} {c : Ct} (h : CR K H g a c) (he : H' a = H a) (le : g.le g') : CR K H' g' a c := by
  cases c with
  | lst xs => obtain ⟨vs, e, r⟩ := h; exact ⟨vs, he.trans e, r.mono le⟩
  | dict kvs => obtain ⟨vs, e, r⟩ := h; exact ⟨vs, he.trans e, r.mono le⟩
end
/-- the ghost with a container that never changes any more -/
def Gh.freeze (g : Gh) (a : Addr) (o : HO) : Gh := ⟨fun b => if b = a then some o else g.fz b, g.ow⟩
/-- .. with an owner of its own -/
def Gh.give (g : Gh) (w : Own) (a : Addr) : Gh := ⟨g.fz, fun w' => if w' = w then some a else g.ow w'⟩
/-- .. without -/
def Gh.drop (g : Gh) (w : Own) : Gh := ⟨g.fz, fun w' => if w' = w then none else g.ow w'⟩
end P3
set_option Elab.async false
set_option linter.all false
set_option maxRecDepth 100000
/-! P3B: steps of the state -/
namespace P3
open PySem L2
section
variable {K : PySem.W.Frag} {cla : String → Addr} {H H' H0 : Hp} {g g' g0 : Gh} {m : Mem} {σ : St} {τ : Tau} {a : Addr} {o : HO}
theorem SlR.mono {w : Own} {v : V} {s : Slot} (h : SlR K H g w v s) (he : ∀ a, g.ow w = some a → H' a = H a) (le : g.le g') (how : ∀ a, g.ow w = some a → g'.ow w = some a) : SlR K H' g' w v s := by
  cases s with
  | val d => exact VR.mono le h
  | own c =>
    obtain ⟨a, e, w', c'⟩ := h
    exact ⟨a, e, how a w', c'.mono (he a w') le⟩
theorem FsR.mono {l : Nat} (he : ∀ w a, g.ow w = some a → H' a = H a) (le : g.le g') (how : ∀ f a, g.ow (.fld l f) = some a → g'.ow (.fld l f) = some a) :
    ∀ {fv : List (Str × V)} {fs : List (String × Slot)}, FsR K H g l fv fs → FsR K H' g' l fv fs
  | _, _, .nil => .nil
  | _, _, .cons s t => .cons (s.mono (fun a q => he _ a q) le (how _)) (FsR.mono he le how t)
theorem OR.mono {l : Nat} {o : MO} (h : OR K cla H g l o) (he : ∀ w a, g.ow w = some a → H' a = H a) (le : g.le g') (how : ∀ f a, g.ow (.fld l f) = some a → g'.ow (.fld l f) = some a) : OR K cla H' g' l o := by
  cases o with
  | ct c =>
    obtain ⟨a, w, r⟩ := h
    exact ⟨a, le.loc _ _ w, r.mono (he _ a w) le⟩
  | inst cls fs =>
    obtain ⟨a, dx, fv, w, e, r, nd⟩ := h
    exact ⟨a, dx, fv, le.loc _ _ w, (he _ a w).trans e, r.mono he le how, nd⟩
/-- what is not owned may change in what does not matter; more may be frozen -/
theorem SR.up (S : SR K cla H g σ τ m) {F : Addr → Option HO} (he : ∀ w a, g.ow w = some a → H' a = H a) (hF : ∀ a o, g.fz a = some o → F a = some o) (hf : ∀ a o, F a = some o → H' a = some o)
    (hn : ∀ w a, g.ow w = some a → F a = none) : SR K cla H' ⟨F, g.ow⟩ σ τ m where
  fz := hf
  inj := S.inj
  nfz := hn
  trk := fun w a e => by rw [he w a e]; exact S.trk w a e
  obj := fun l o e => (S.obj l o e).mono he ⟨hF, fun _ _ q => q⟩ fun _ _ q => q
  dom := S.dom
  domf := S.domf
  len := S.len
  slot := fun i s e => by
    obtain ⟨v, e1, r⟩ := S.slot i s e
    exact ⟨v, e1, r.mono (fun a q => he _ a q) ⟨hF, fun _ _ q => q⟩ fun _ q => q⟩
theorem Gh.freeze_le (h : g.fz a = none) : g.le (g.freeze a o) := ⟨fun b u e => by
  show (if b = a then some o else g.fz b) = some u
  rw [if_neg (fun z => by rw [z, h] at e; cases e)]
  exact e, fun _ _ q => q⟩
/-- a container without an owner never changes any more -/
theorem SR.freeze (S : SR K cla H g σ τ m) (e : H a = some o) (hn : ∀ w, g.ow w ≠ some a) (hz : g.fz a = none) : SR K cla H (g.freeze a o) σ τ m :=
  S.up (fun _ _ _ => rfl) (Gh.freeze_le hz).fz (fun b u q => by
    have q : (if b = a then some o else g.fz b) = some u := q
    split at q
    · rename_i z; cases q; rw [z]; exact e
    · exact S.fz b u q) fun w b q => by
    show (if b = a then some o else g.fz b) = none
    rw [if_neg (fun z : b = a => hn w (by rw [← z]; exact q))]
    exact S.nfz w b q
theorem SR.none_ow (S : SR K cla H g σ τ m) (hp : H a = none) : ∀ w, g.ow w ≠ some a := fun w e => S.trk w a e hp
theorem SR.none_fz (S : SR K cla H g σ τ m) (hp : H a = none) : g.fz a = none := by
  cases e : g.fz a with
  | none => rfl
  | some u => have q := S.fz a u e; rw [hp] at q; cases q
/-- a new object -/
theorem SR.new (S : SR K cla H g σ τ m) (hp : H a = none) : SR K cla (upd H a o) g σ τ m :=
  S.up (F := g.fz) (fun w b q => upd_ne (fun z => S.none_ow hp w (z ▸ q))) (fun _ _ q => q) (fun b u q => by rw [upd_ne (fun z => by rw [z, S.none_fz hp] at q; cases q)]; exact S.fz b u q) S.nfz
theorem SR.newF (S : SR K cla H g σ τ m) (hp : H a = none) : SR K cla (upd H a o) (g.freeze a o) σ τ m :=
  (S.new hp).freeze upd_same (S.none_ow hp) (S.none_fz hp)
theorem Ext.new' (hp : H a = none) : Ext H g (upd H a o) g where
  le := .refl
  keep := fun b u e _ => by rw [upd_ne (ne_of_none e hp)]; exact e
  there := fun b e => by
    by_cases z : b = a
    · rw [z, upd_same]; intro q; cases q
    · rw [upd_ne z]; exact e
  new := fun w b q => .inl ⟨w, q⟩
  nfr := fun b q => .inl q
theorem Ext.freeze (E : Ext H0 g0 H g) (hz : g.fz a = none) (h : H0 a = none ∨ ∃ w, g0.ow w = some a) : Ext H0 g0 H (g.freeze a o) where
  le := E.le.trans (Gh.freeze_le hz)
  keep := E.keep
  there := E.there
  new := E.new
  nfr := fun b q => by
    have q : (if b = a then some o else g.fz b) ≠ none := q
    split at q
    · rename_i z; rw [z]; exact .inr h
    · exact E.nfr b q
theorem Ext.newF (S : SR K cla H g σ τ m) (hp : H a = none) : Ext H g (upd H a o) (g.freeze a o) :=
  (Ext.new' hp).freeze (S.none_fz hp) (.inl hp)
theorem Gh.freeze_at : (g.freeze a o).fz a = some o := if_pos rfl
/-- a container without an owner gets one -/
theorem Ext.give {w : Own} (E : Ext H0 g0 H g) (hw : ∀ l, w = .loc l → g.ow w = none) (h : H0 a = none ∨ ∃ w, g0.ow w = some a) : Ext H0 g0 H (g.give w a) where
  le := E.le.trans ⟨fun _ _ q => q, fun l b q => by
    show (if Own.loc l = w then some a else g.ow (.loc l)) = some b
    rw [if_neg (fun z => by have := hw l z.symm; rw [← z, q] at this; cases this)]
    exact q⟩
  keep := E.keep
  there := E.there
  new := fun w' b q => by
    have q : (if w' = w then some a else g.ow w') = some b := q
    split at q
    · cases q; exact h.symm
    · exact E.new w' b q
  nfr := E.nfr
theorem Ext.drop {w : Own} (E : Ext H0 g0 H g) (hw : ∀ l, w ≠ .loc l) : Ext H0 g0 H (g.drop w) where
  le := E.le.trans ⟨fun _ _ q => q, fun l b q => by
    show (if Own.loc l = w then none else g.ow (.loc l)) = some b
    rw [if_neg (fun z => hw l z.symm)]
    exact q⟩
  keep := E.keep
  there := E.there
  new := fun w' b q => by
    have q : (if w' = w then none else g.ow w') = some b := q
    split at q
    · cases q
    · exact E.new w' b q
  nfr := E.nfr
/-- an owned container is written -/
theorem Ext.write {w : Own} (E : Ext H0 g0 H g) (hw : g.ow w = some a) : Ext H0 g0 (upd H a o) g where
  le := E.le
  keep := fun b u e n => by
    have hb : b ≠ a := fun z => by
      rcases E.new w a hw with ⟨w0, q⟩ | q
      · exact n w0 (z ▸ q)
      · rw [z, q] at e; cases e
    rw [upd_ne hb]
    exact E.keep b u e n
  there := fun b e => by
    by_cases z : b = a
    · rw [z, upd_same]; intro q; cases q
    · rw [upd_ne z]; exact E.there b e
  new := E.new
  nfr := E.nfr
/-! ### slots -/
/-- slot i forgotten, or with a value -/
theorem SR.setVal {i : Nat} {v : V} {d : D} (S : SR K cla H g σ τ m) (r : VR K g v d) : SR K cla H (g.drop (.slot i)) (σ.set i (some v)) (τ.set i (some (.val d))) m := by
  have le : g.le (g.drop (.slot i)) := ⟨fun _ _ q => q, fun l b q => by
    show (if Own.loc l = .slot i then none else g.ow (.loc l)) = some b
    rw [if_neg (by intro z; cases z)]; exact q⟩
  have ow : ∀ w a, (g.drop (.slot i)).ow w = some a → g.ow w = some a := fun w a q => by
    have q : (if w = .slot i then none else g.ow w) = some a := q
    split at q
    · cases q
    · exact q
  refine ⟨⟨S.fz, fun w w' a h h' => S.inj w w' a (ow w a h) (ow w' a h'), fun w a h => S.nfz w a (ow w a h), fun w a h => S.trk w a (ow w a h), fun l o e => ?_, fun l a h => S.dom l a (ow _ a h), fun l f a h => S.domf l f a (ow _ a h)⟩, ?_, fun j s e => ?_⟩
  · refine (S.obj l o e).mono (fun _ _ _ => rfl) le fun f b q => ?_
    show (if Own.fld l f = .slot i then none else g.ow (.fld l f)) = some b
    rw [if_neg (by intro z; cases z)]; exact q
  · rw [List.length_set, List.length_set]; exact S.len
  · by_cases hj : i = j
    · subst hj
      have hi : i < τ.length := by
        by_cases z : i < τ.length
        · exact z
        · rw [List.getElem?_eq_none (by simpa using z)] at e; cases e
      rw [List.getElem?_set_self hi] at e
      cases e
      exact ⟨v, List.getElem?_set_self (by rw [S.len]; exact hi), r.mono le⟩
    · rw [List.getElem?_set_ne hj] at e
      obtain ⟨u, e1, r1⟩ := S.slot j s e
      refine ⟨u, by rw [List.getElem?_set_ne hj]; exact e1, r1.mono (fun _ _ => rfl) le fun b q => ?_⟩
      show (if Own.slot j = .slot i then none else g.ow (.slot j)) = some b
      rw [if_neg (by intro z; cases z; exact hj rfl)]; exact q
theorem SR.setOwn {i : Nat} {c : Ct} (S : SR K cla H g σ τ m) (r : CR K H g a c) (hn : ∀ w, g.ow w ≠ some a) (hz : g.fz a = none) :
    SR K cla H (g.give (.slot i) a) (σ.set i (some (.ref a))) (τ.set i (some (.own c))) m := by
  have le : g.le (g.give (.slot i) a) := ⟨fun _ _ q => q, fun l b q => by
    show (if Own.loc l = .slot i then some a else g.ow (.loc l)) = some b
    rw [if_neg (by intro z; cases z)]; exact q⟩
  have ow : ∀ w b, (g.give (.slot i) a).ow w = some b → (w = .slot i ∧ b = a) ∨ (w ≠ .slot i ∧ g.ow w = some b) := fun w b q => by
    have q : (if w = .slot i then some a else g.ow w) = some b := q
    split at q
    · rename_i z; cases q; exact .inl ⟨z, rfl⟩
    · rename_i z; exact .inr ⟨z, q⟩
  have hH : H a ≠ none := by
    cases c with
    | lst xs => obtain ⟨vs, e, _⟩ := r; rw [e]; intro z; cases z
    | dict xs => obtain ⟨vs, e, _⟩ := r; rw [e]; intro z; cases z
  refine ⟨⟨S.fz, fun w w' b h h' => ?_, fun w b h => ?_, fun w b h => ?_, fun l o e => ?_, fun l b h => ?_, fun l f b h => ?_⟩, ?_, fun j s e => ?_⟩
  · rcases ow w b h with ⟨z, y⟩ | ⟨z, y⟩ <;> rcases ow w' b h' with ⟨z', y'⟩ | ⟨z', y'⟩
    · rw [z, z']
    · subst y; exact absurd y' (hn w')
    · subst y'; exact absurd y (hn w)
    · exact S.inj w w' b y y'
  · rcases ow w b h with ⟨z, y⟩ | ⟨z, y⟩
    · subst y; exact hz
    · exact S.nfz w b y
  · rcases ow w b h with ⟨z, y⟩ | ⟨z, y⟩
    · subst y; exact hH
    · exact S.trk w b y
  · refine (S.obj l o e).mono (fun _ _ _ => rfl) le fun f b q => ?_
    show (if Own.fld l f = .slot i then some a else g.ow (.fld l f)) = some b
    rw [if_neg (by intro z; cases z)]; exact q
  · rcases ow _ b h with ⟨z, y⟩ | ⟨z, y⟩
    · cases z
    · exact S.dom l b y
  · rcases ow _ b h with ⟨z, y⟩ | ⟨z, y⟩
    · cases z
    · exact S.domf l f b y
  · rw [List.length_set, List.length_set]; exact S.len
  · by_cases hj : i = j
    · subst hj
      have hi : i < τ.length := by
        by_cases z : i < τ.length
        · exact z
        · rw [List.getElem?_eq_none (by simpa using z)] at e; cases e
      rw [List.getElem?_set_self hi] at e
      cases e
      exact ⟨.ref a, List.getElem?_set_self (by rw [S.len]; exact hi), a, rfl, if_pos rfl, r.mono rfl le⟩
    · rw [List.getElem?_set_ne hj] at e
      obtain ⟨u, e1, r1⟩ := S.slot j s e
      refine ⟨u, by rw [List.getElem?_set_ne hj]; exact e1, r1.mono (fun _ _ => rfl) le fun b q => ?_⟩
      show (if Own.slot j = .slot i then some a else g.ow (.slot j)) = some b
      rw [if_neg (by intro z; cases z; exact hj rfl)]; exact q
/-- a slot forgotten -/
theorem SR.weak (S : SR K cla H g σ τ m) {τ' : Tau} {σ' : St} (hl : σ'.length = τ'.length) (h : ∀ (i : Nat) (s : Slot), τ'[i]? = some (some s) → τ[i]? = some (some s) ∧ σ'[i]? = σ[i]?) : SR K cla H g σ' τ' m :=
  ⟨S.toSH, hl, fun i s e => by
    obtain ⟨e1, e2⟩ := h i s e
    obtain ⟨v, e3, r⟩ := S.slot i s e1
    exact ⟨v, e2.trans e3, r⟩⟩
/-- an owned container of a slot is written -/
theorem SR.writeSlot {i : Nat} {c : Ct} {g' : Gh} (S : SR K cla H g σ τ m) (hw : g.ow (.slot i) = some a) (hσ : σ[i]? = some (some (.ref a))) (r : CR K (upd H a o) g a c) :
    SR K cla (upd H a o) g σ (τ.set i (some (.own c))) m := by
  have he : ∀ w b, g.ow w = some b → w ≠ .slot i → upd H a o b = H b := fun w b q n => upd_ne fun z => n (S.inj w (.slot i) b q (z ▸ hw))
  refine ⟨⟨fun b u q => ?_, S.inj, S.nfz, fun w b q => ?_, fun l u e => ?_, S.dom, S.domf⟩, ?_, fun j s e => ?_⟩
  · rw [upd_ne (fun z => by have := S.nfz _ _ hw; rw [z] at q; rw [q] at this; cases this)]
    exact S.fz b u q
  · by_cases z : b = a
    · rw [z, upd_same]; intro q; cases q
    · rw [upd_ne z]; exact S.trk w b q
  · cases u with
    | ct c' =>
      obtain ⟨b, w, r'⟩ := S.obj l _ e
      exact ⟨b, w, r'.mono (he _ b w (by intro z; cases z)) .refl⟩
    | inst cls fs =>
      obtain ⟨b, dx, fv, w, e', r', nd⟩ := S.obj l _ e
      refine ⟨b, dx, fv, w, (he _ b w (by intro z; cases z)).trans e', ?_, nd⟩
      clear e e' w nd
      induction r' with
      | nil => exact .nil
      | cons s t ih => exact .cons (s.mono (fun b q => he _ b q (by intro z; cases z)) .refl fun _ q => q) ih
  · rw [List.length_set]; exact S.len
  · by_cases hj : i = j
    · subst hj
      have hi : i < τ.length := by
        by_cases z : i < τ.length
        · exact z
        · rw [List.getElem?_eq_none (by simpa using z)] at e; cases e
      rw [List.getElem?_set_self hi] at e
      cases e
      exact ⟨.ref a, hσ, a, rfl, hw, r⟩
    · rw [List.getElem?_set_ne hj] at e
      obtain ⟨u, e1, r1⟩ := S.slot j s e
      exact ⟨u, e1, r1.mono (fun b q => he _ b q (by intro z; cases z; exact hj rfl)) .refl fun _ q => q⟩
/-- an owned list or dict of the memory is written -/
theorem SR.writeLoc {l : Nat} {c : Ct} (S : SR K cla H g σ τ m) (hw : g.ow (.loc l) = some a) (r : CR K (upd H a o) g a c) : SR K cla (upd H a o) g σ τ (m.set l (.ct c)) := by
  have he : ∀ w b, g.ow w = some b → w ≠ .loc l → upd H a o b = H b := fun w b q n => upd_ne fun z => n (S.inj w (.loc l) b q (z ▸ hw))
  refine ⟨⟨fun b u q => ?_, S.inj, S.nfz, fun w b q => ?_, fun l' u e => ?_, fun l' b q => ?_, fun l' f b q => ?_⟩, S.len, fun j s e => ?_⟩
  · rw [upd_ne (fun z => by have := S.nfz _ _ hw; rw [z] at q; rw [q] at this; cases this)]
    exact S.fz b u q
  · by_cases z : b = a
    · rw [z, upd_same]; intro q; cases q
    · rw [upd_ne z]; exact S.trk w b q
  · by_cases hl : l = l'
    · subst hl
      rw [List.getElem?_set_self (S.dom _ _ hw)] at e
      cases e
      exact ⟨a, hw, r⟩
    · rw [List.getElem?_set_ne hl] at e
      cases u with
      | ct c' =>
        obtain ⟨b, w, r'⟩ := S.obj l' _ e
        exact ⟨b, w, r'.mono (he _ b w (by intro z; cases z; exact hl rfl)) .refl⟩
      | inst cls fs =>
        obtain ⟨b, dx, fv, w, e', r', nd⟩ := S.obj l' _ e
        refine ⟨b, dx, fv, w, (he _ b w (by intro z; cases z; exact hl rfl)).trans e', ?_, nd⟩
        clear e e' w nd
        induction r' with
        | nil => exact .nil
        | cons s t ih => exact .cons (s.mono (fun b q => he _ b q (by intro z; cases z)) .refl fun _ q => q) ih
  · rw [List.length_set]; exact S.dom l' b q
  · rw [List.length_set]; exact S.domf l' f b q
  · obtain ⟨u, e1, r1⟩ := S.slot j s e
    exact ⟨u, e1, r1.mono (fun b q => he _ b q (by intro z; cases z)) .refl fun _ q => q⟩
/-- a container becomes one of the memory -/
theorem SR.giveLoc {c : Ct} (S : SR K cla H g σ τ m) (r : CR K H g a c) (hn : ∀ w, g.ow w ≠ some a) (hz : g.fz a = none) :
    SR K cla H (g.give (.loc m.length) a) σ τ (m ++ [.ct c]) := by
  have hno : g.ow (.loc m.length) = none := by
    cases e : g.ow (.loc m.length) with
    | none => rfl
    | some b => exact absurd (S.dom _ _ e) (Nat.lt_irrefl _)
  have le : g.le (g.give (.loc m.length) a) := ⟨fun _ _ q => q, fun l b q => by
    show (if Own.loc l = .loc m.length then some a else g.ow (.loc l)) = some b
    rw [if_neg (by intro z; rw [z, hno] at q; cases q)]; exact q⟩
  have hle : ∀ w b, g.ow w = some b → (g.give (.loc m.length) a).ow w = some b := fun w b q => by
    show (if w = .loc m.length then some a else g.ow w) = some b
    rw [if_neg (by intro z; rw [z, hno] at q; cases q)]; exact q
  have ow : ∀ w b, (g.give (.loc m.length) a).ow w = some b → (w = .loc m.length ∧ b = a) ∨ g.ow w = some b := fun w b q => by
    have q : (if w = .loc m.length then some a else g.ow w) = some b := q
    split at q
    · rename_i z; cases q; exact .inl ⟨z, rfl⟩
    · exact .inr q
  have hH : H a ≠ none := by
    cases c with
    | lst xs => obtain ⟨vs, e, _⟩ := r; rw [e]; intro z; cases z
    | dict xs => obtain ⟨vs, e, _⟩ := r; rw [e]; intro z; cases z
  refine ⟨⟨S.fz, fun w w' b h h' => ?_, fun w b h => ?_, fun w b h => ?_, fun l o e => ?_, fun l b h => ?_, fun l f b h => ?_⟩, S.len, fun j s e => ?_⟩
  · rcases ow w b h with ⟨z, y⟩ | y <;> rcases ow w' b h' with ⟨z', y'⟩ | y'
    · rw [z, z']
    · subst y; exact absurd y' (hn w')
    · subst y'; exact absurd y (hn w)
    · exact S.inj w w' b y y'
  · rcases ow w b h with ⟨z, y⟩ | y
    · subst y; exact hz
    · exact S.nfz w b y
  · rcases ow w b h with ⟨z, y⟩ | y
    · subst y; exact hH
    · exact S.trk w b y
  · by_cases hl : l < m.length
    · rw [List.getElem?_append_left hl] at e
      exact (S.obj l o e).mono (fun _ _ _ => rfl) le fun f b q => hle _ b q
    · rw [List.getElem?_append_right (by omega)] at e
      have hl2 : l = m.length := by
        by_cases z : l - m.length = 0
        · omega
        · rw [List.getElem?_eq_none (by simp; omega)] at e; cases e
      subst hl2
      rw [Nat.sub_self] at e
      cases e
      exact ⟨a, if_pos rfl, r.mono rfl le⟩
  · rw [List.length_append, List.length_singleton]
    rcases ow _ b h with ⟨z, y⟩ | y
    · cases z; omega
    · have := S.dom l b y; omega
  · rw [List.length_append, List.length_singleton]
    rcases ow _ b h with ⟨z, y⟩ | y
    · cases z
    · have := S.domf l f b y; omega
  · obtain ⟨u, e1, r1⟩ := S.slot j s e
    exact ⟨u, e1, r1.mono (fun _ _ => rfl) le fun b q => hle _ b q⟩
theorem SR.noLoc (S : SR K cla H g σ τ m) : g.ow (.loc m.length) = none := by
  cases e : g.ow (.loc m.length) with
  | none => rfl
  | some b => exact absurd (S.dom _ _ e) (Nat.lt_irrefl _)
/-! ### calls -/
/-- the callee's ghost: without the caller's slots -/
def Gh.call (g : Gh) : Gh := ⟨g.fz, fun w => match w with | .slot _ => none | w => g.ow w⟩
/-- the caller's ghost behind a call -/
def Gh.back (g g' : Gh) : Gh := ⟨g'.fz, fun w => match w with | .slot i => g.ow (.slot i) | w => g'.ow w⟩
theorem Gh.call_ow {w : Own} (h : g.call.ow w = some a) : g.ow w = some a ∧ ∀ i, w ≠ .slot i := by
  cases w with
  | loc l => exact ⟨h, fun _ z => by cases z⟩
  | fld l f => exact ⟨h, fun _ z => by cases z⟩
  | slot i => exact absurd (show (none : Option Addr) = some a from h) (by intro z; cases z)
theorem Gh.call_le : g.le g.call := ⟨fun _ _ h => h, fun _ _ h => h⟩
theorem SR.call (S : SR K cla H g σ τ m) : SH K cla H g.call m :=
  ⟨S.fz, fun w w' b h h' => S.inj w w' b (Gh.call_ow h).1 (Gh.call_ow h').1, fun w b h => S.nfz w b (Gh.call_ow h).1, fun w b h => S.trk w b (Gh.call_ow h).1,
    fun l o e => (S.obj l o e).mono (fun _ _ _ => rfl) Gh.call_le fun _ _ q => q, fun l b h => S.dom l b h, fun l f b h => S.domf l f b h⟩
theorem SR.back (S : SR K cla H g σ τ m) {m' : Mem} (S' : SH K cla H' g' m') (E : Ext H g.call H' g') (hs : ∀ i, g'.ow (.slot i) = none) : SR K cla H' (g.back g') σ τ m' ∧ Ext H g H' (g.back g') := by
  have own : ∀ i a, g.ow (.slot i) = some a → ∀ w, g.call.ow w ≠ some a := fun i a h w q => by
    obtain ⟨q1, q2⟩ := Gh.call_ow q
    exact q2 i (S.inj _ _ a q1 h)
  have apart : ∀ i a, g.ow (.slot i) = some a → ∀ w, g'.ow w ≠ some a := fun i a h w q => by
    rcases E.new w a q with ⟨w0, q0⟩ | z
    · exact own i a h w0 q0
    · exact S.trk _ _ h z
  have same : ∀ i a, g.ow (.slot i) = some a → H' a = H a := fun i a h => by
    cases e : H a with
    | none => exact absurd e (S.trk _ _ h)
    | some o => exact E.keep a o e (own i a h)
  have ow : ∀ w b, (g.back g').ow w = some b → (∃ i, w = .slot i ∧ g.ow (.slot i) = some b) ∨ g'.ow w = some b := fun w b h => by
    cases w with
    | loc l => exact .inr h
    | fld l f => exact .inr h
    | slot i => exact .inl ⟨i, rfl, h⟩
  have le' : g'.le (g.back g') := ⟨fun _ _ q => q, fun _ _ q => q⟩
  have le : g.le (g.back g') := ⟨fun b o q => E.le.fz b o q, fun l b q => E.le.loc l b q⟩
  refine ⟨⟨⟨S'.fz, fun w w' b h h' => ?_, fun w b h => ?_, fun w b h => ?_, fun l o e => (S'.obj l o e).mono (fun _ _ _ => rfl) le' fun _ _ q => q, fun l b h => S'.dom l b h, fun l f b h => S'.domf l f b h⟩, S.len, fun i s e => ?_⟩,
    ⟨le, fun b o e n => E.keep b o e fun w q => n w (Gh.call_ow q).1, E.there, fun w b h => ?_, fun b h => ?_⟩⟩
  · rcases ow w b h with ⟨i, z, y⟩ | y <;> rcases ow w' b h' with ⟨i', z', y'⟩ | y'
    · rw [z, z']; exact S.inj _ _ b y y'
    · exact absurd y' (apart i b y w')
    · exact absurd y (apart i' b y' w)
    · exact S'.inj w w' b y y'
  · rcases ow w b h with ⟨i, z, y⟩ | y
    · show g'.fz b = none
      cases e : g'.fz b with
      | none => rfl
      | some o =>
        exfalso
        rcases E.nfr b (by rw [e]; intro z; cases z) with q | q | ⟨w0, q⟩
        · exact q (S.nfz _ _ y)
        · exact S.trk _ _ y q
        · exact own i b y w0 q
    · exact S'.nfz w b y
  · rcases ow w b h with ⟨i, z, y⟩ | y
    · rw [same i b y]; exact S.trk _ _ y
    · exact S'.trk w b y
  · obtain ⟨v, e1, r⟩ := S.slot i s e
    exact ⟨v, e1, r.mono (fun a q => same i a q) le fun a q => q⟩
  · rcases ow w b h with ⟨i, z, y⟩ | y
    · exact .inl ⟨_, y⟩
    · rcases E.new w b y with ⟨w0, q⟩ | q
      · exact .inl ⟨w0, (Gh.call_ow q).1⟩
      · exact .inr q
  · rcases E.nfr b h with q | q | ⟨w, q⟩
    · exact .inl q
    · exact .inr (.inl q)
    · exact .inr (.inr ⟨w, (Gh.call_ow q).1⟩)
end
end P3
set_option Elab.async false
set_option linter.all false
set_option maxRecDepth 100000
/-! P3T: instances: steps of the state -/
namespace P3
open PySem L2
theorem ofString_inj {s t : String} (h : Str.ofString s = Str.ofString t) : s = t := by
  rw [Str.ofString_eq_toList, Str.ofString_eq_toList] at h
  injection h with h
  have h2 : s.toList.map Char.toNat = t.toList.map Char.toNat := by simpa using congrArg Array.toList h
  have inj : ∀ (a b : List Char), a.map Char.toNat = b.map Char.toNat → a = b := by
    intro a
    induction a with
    | nil => intro b hb; cases b with
      | nil => rfl
      | cons c r => cases hb
    | cons c r ih => intro b hb; cases b with
      | nil => cases hb
      | cons d r' =>
        simp only [List.map_cons, List.cons.injEq] at hb
        rw [ih r' hb.2]
        have : c = d := Char.ext (UInt32.toNat_inj.mp hb.1)
        rw [this]
  have h3 := inj _ _ h2
  rw [← String.ofList_toList (s := s), ← String.ofList_toList (s := t), h3]
/-- a field's store -/
def setF (f : String) (s : Slot) : List (String × Slot) → List (String × Slot)
  | [] => [(f, s)]
  | (g, x) :: r => if g = f then (g, s) :: r else (g, x) :: setF f s r
theorem setF_keys (f : String) (s : Slot) : ∀ fs : List (String × Slot), (setF f s fs).map (·.1) = if f ∈ fs.map (·.1) then fs.map (·.1) else fs.map (·.1) ++ [f]
  | [] => by simp [setF]
  | (g, x) :: r => by
    by_cases h : g = f
    · subst h; simp [setF]
    · have ih := setF_keys f s r
      have hf : ¬ f = g := fun z => h z.symm
      simp only [setF, if_neg h, List.map_cons, ih, List.mem_cons, hf, false_or]
      by_cases hm : f ∈ r.map (·.1)
      · rw [if_pos hm, if_pos hm]
      · rw [if_neg hm, if_neg hm]; rfl
theorem setF_nodup {f : String} {s : Slot} {fs : List (String × Slot)} (h : (fs.map (·.1)).Nodup) : ((setF f s fs).map (·.1)).Nodup := by
  rw [setF_keys]
  by_cases hm : f ∈ fs.map (·.1)
  · rw [if_pos hm]; exact h
  · rw [if_neg hm, List.nodup_append]
    exact ⟨h, by simp, fun a ha b hb => by simp at hb; subst hb; intro z; subst z; exact hm ha⟩
theorem setF_len (f : String) (s : Slot) : ∀ fs : List (String × Slot), (setF f s fs).length ≤ fs.length + 1
  | [] => by simp [setF]
  | (g, x) :: r => by
    have ih := setF_len f s r
    unfold setF
    split <;> simp only [List.length_cons] <;> omega
theorem setF_there {f : String} {s t : Slot} : ∀ {fs : List (String × Slot)}, fs.lookup f = some t → (setF f s fs).length = fs.length
  | [], h => by cases h
  | (g, x) :: r, h => by
    by_cases e : g = f
    · subst e; simp [setF]
    · have hf : (f == g) = false := by simp; exact fun z => e z.symm
      rw [List.lookup_cons, hf] at h
      simp only [setF, if_neg e, List.length_cons, setF_there h]
section
variable {K : PySem.W.Frag} {cla : String → Addr} {H H' H0 : Hp} {g g' g0 : Gh} {m : Mem} {σ : St} {τ : Tau} {a : Addr} {o : HO} {l : Nat}
theorem SlR.mono' {w : Own} {v : V} {s : Slot} (h : SlR K H g w v s) (he : ∀ a, g.ow w = some a → H' a = H a) (le : g.le g') (how : ∀ a, g.ow w = some a → g'.ow w = some a) : SlR K H' g' w v s := h.mono he le how
theorem FsR.mono' : ∀ {fv : List (Str × V)} {fs : List (String × Slot)}, (∀ f a, f ∈ fs.map (·.1) → g.ow (.fld l f) = some a → H' a = H a) → g.le g' → (∀ f a, f ∈ fs.map (·.1) → g.ow (.fld l f) = some a → g'.ow (.fld l f) = some a) → FsR K H g l fv fs → FsR K H' g' l fv fs
  | _, _, _, _, _, .nil => .nil
  | _, _, he, le, how, .cons s t => .cons (s.mono (fun a q => he _ a List.mem_cons_self q) le (fun a q => how _ a List.mem_cons_self q)) (FsR.mono' (fun f a hf => he f a (List.mem_cons_of_mem _ hf)) le (fun f a hf => how f a (List.mem_cons_of_mem _ hf)) t)
theorem OR.mono' {mo : MO} (h : OR K cla H g l mo) (he : ∀ a, g.ow (.loc l) = some a → H' a = H a) (hf : ∀ f a, g.ow (.fld l f) = some a → H' a = H a) (le : g.le g') (how : ∀ f a, g.ow (.fld l f) = some a → g'.ow (.fld l f) = some a) : OR K cla H' g' l mo := by
  cases mo with
  | ct c =>
    obtain ⟨a, w, r⟩ := h
    exact ⟨a, le.loc _ _ w, r.mono (he a w) le⟩
  | inst cls fs =>
    obtain ⟨a, dx, fv, w, e, r, nd⟩ := h
    exact ⟨a, dx, fv, le.loc _ _ w, (he a w).trans e, r.mono' (fun f a _ => hf f a) le (fun f a _ => how f a), nd⟩
theorem FsR.put {f : String} {v : V} {s : Slot} : ∀ {fv : List (Str × V)} {fs : List (String × Slot)}, FsR K H g l fv fs → (fs.map (·.1)).Nodup → (∀ f' a, f' ≠ f → g.ow (.fld l f') = some a → H' a = H a) → g.le g' → (∀ f' a, f' ≠ f → g.ow (.fld l f') = some a → g'.ow (.fld l f') = some a) →
    SlR K H' g' (.fld l f) v s → FsR K H' g' l (putF (Str.ofString f) v fv) (setF f s fs)
  | _, _, .nil, _, _, _, _, hs => .cons hs .nil
  | _, _, .cons (f := k) (fv := fv) (fs := fs) r t, nd, he, le, how, hs => by
    have nd : k ∉ fs.map (·.1) ∧ (fs.map (·.1)).Nodup := by simpa using nd
    by_cases e : k = f
    · subst e
      simp only [putF, setF, if_true]
      refine .cons hs (t.mono' (fun f' a hm => he f' a fun z => nd.1 (z ▸ hm)) le fun f' a hm => how f' a fun z => nd.1 (z ▸ hm))
    · have e2 : ¬ Str.ofString k = Str.ofString f := fun z => e (ofString_inj z)
      simp only [putF, setF, if_neg e, if_neg e2]
      exact .cons (r.mono (fun a q => he _ a e q) le (fun a q => how _ a e q)) (FsR.put t nd.2 he le how hs)
theorem FsR.get {f : String} {s : Slot} : ∀ {fv : List (Str × V)} {fs : List (String × Slot)}, FsR K H g l fv fs → fs.lookup f = some s → ∃ v, fv.lookup (Str.ofString f) = some v ∧ SlR K H g (.fld l f) v s
  | _, _, .nil, h => by cases h
  | _, _, .cons (f := k) r t, h => by
    rw [List.lookup_cons] at h
    by_cases e : f = k
    · subst e
      simp at h
      subst h
      exact ⟨_, by simp, r⟩
    · have e1 : (f == k) = false := by simpa using e
      have e2 : (Str.ofString f == Str.ofString k) = false := by simp; exact fun z => e (ofString_inj z)
      rw [e1] at h
      obtain ⟨v, h1, h2⟩ := FsR.get t h
      exact ⟨v, by rw [List.lookup_cons, e2]; exact h1, h2⟩
theorem FsR.none {f : String} : ∀ {fv : List (Str × V)} {fs : List (String × Slot)}, FsR K H g l fv fs → fs.lookup f = none → fv.lookup (Str.ofString f) = none
  | _, _, .nil, h => rfl
  | _, _, .cons (f := k) r t, h => by
    rw [List.lookup_cons] at h
    by_cases e : f = k
    · subst e; simp at h
    · have e1 : (f == k) = false := by simpa using e
      have e2 : (Str.ofString f == Str.ofString k) = false := by simp; exact fun z => e (ofString_inj z)
      rw [e1] at h
      rw [List.lookup_cons, e2]
      exact FsR.none t h
theorem FsR.len : ∀ {fv : List (Str × V)} {fs : List (String × Slot)}, FsR K H g l fv fs → fv.length = fs.length
  | _, _, .nil => rfl
  | _, _, .cons _ t => congrArg (· + 1) (FsR.len t)
theorem putF_self {f : Str} {v : V} : ∀ {fv : List (Str × V)}, fv.lookup f = some v → putF f v fv = fv
  | [], h => by cases h
  | (k, x) :: r, h => by
    rw [List.lookup_cons] at h
    by_cases e : k = f
    · subst e
      simp at h
      subst h
      simp [putF]
    · have e1 : (f == k) = false := by simp; exact fun z => e z.symm
      rw [e1] at h
      simp only [putF, if_neg e, putF_self h]
/-- an instance's fields change, and nothing else -/
theorem SR.reInst (S : SR K cla H g σ τ m) {cls : String} {fs fs' : List (String × Slot)} (hm : m[l]? = some (.inst cls fs)) (ha : g.ow (.loc l) = some a)
    (hfz : ∀ b o, g'.fz b = some o → H' b = some o) (hle : g.le g') (how : ∀ w b, (∀ f, w ≠ .fld l f) → (g'.ow w = some b ↔ g.ow w = some b)) (hinj : ∀ w w' b, g'.ow w = some b → g'.ow w' = some b → w = w')
    (hnfz : ∀ w b, g'.ow w = some b → g'.fz b = none) (htrk : ∀ w b, g'.ow w = some b → H' b ≠ none) (he : ∀ w b, g.ow w = some b → (∀ f, w ≠ .fld l f) → w ≠ .loc l → H' b = H b)
    (hobj : ∃ dx fv, H' a = some (.ins (cla cls) dx fv) ∧ FsR K H' g' l fv fs') (nd : (fs'.map (·.1)).Nodup) (hlen : fs'.length < 900) : SR K cla H' g' σ τ (m.set l (.inst cls fs')) := by
  have hl : l < m.length := (List.getElem?_eq_some_iff.mp hm).1
  refine ⟨⟨hfz, hinj, hnfz, htrk, fun l' o e => ?_, fun l' b q => ?_, fun l' f b q => ?_⟩, S.len, fun i s e => ?_⟩
  · by_cases hll : l = l'
    · subst hll
      rw [List.getElem?_set_self hl] at e
      cases e
      obtain ⟨dx, fv, h1, h2⟩ := hobj
      exact ⟨a, dx, fv, hle.loc _ _ ha, h1, h2, nd, hlen⟩
    · rw [List.getElem?_set_ne hll] at e
      exact (S.obj l' o e).mono' (fun b q => he _ b q (fun f z => by cases z) (fun z => by cases z; exact hll rfl)) (fun f b q => he _ b q (fun f' z => by cases z; exact hll rfl) (fun z => by cases z)) hle
        fun f b q => (how _ b (fun f' z => by cases z; exact hll rfl)).mpr q
  · rw [List.length_set]
    exact S.dom l' b ((how _ b (fun f z => by cases z)).mp q)
  · rw [List.length_set]
    by_cases hll : l' = l
    · rw [hll]; exact hl
    · exact S.domf l' f b ((how _ b (fun f' z => by cases z; exact hll rfl)).mp q)
  · obtain ⟨v, e1, r⟩ := S.slot i s e
    exact ⟨v, e1, r.mono (fun b q => he _ b q (fun f z => by cases z) (fun z => by cases z)) hle fun b q => (how _ b (fun f z => by cases z)).mpr q⟩
theorem SR.instAt (S : SR K cla H g σ τ m) {cls : String} {fs : List (String × Slot)} (hm : m[l]? = some (.inst cls fs)) : ∃ a dx fv, g.ow (.loc l) = some a ∧ H a = some (.ins (cla cls) dx fv) ∧ FsR K H g l fv fs ∧ (fs.map (·.1)).Nodup ∧ fs.length < 900 := S.obj l _ hm
/-- x.f = a value -/
theorem SR.setFldVal (S : SR K cla H g σ τ m) {cls f : String} {fs : List (String × Slot)} {dx : Addr} {fv : List (Str × V)} {v : V} {d : D} (hm : m[l]? = some (.inst cls fs)) (ha : g.ow (.loc l) = some a) (hH : H a = some (.ins (cla cls) dx fv)) (hF : FsR K H g l fv fs) (nd : (fs.map (·.1)).Nodup) (hlen : (setF f (.val d) fs).length < 900)
    (r : VR K g v d) : SR K cla (upd H a (.ins (cla cls) dx (putF (Str.ofString f) v fv))) (g.drop (.fld l f)) σ τ (m.set l (.inst cls (setF f (.val d) fs))) := by
  have le : g.le (g.drop (.fld l f)) := ⟨fun _ _ q => q, fun l' b q => by
    show (if Own.loc l' = .fld l f then none else g.ow (.loc l')) = some b
    rw [if_neg (by intro z; cases z)]; exact q⟩
  have ow : ∀ w b, (g.drop (.fld l f)).ow w = some b → g.ow w = some b := fun w b q => by
    have q : (if w = .fld l f then none else g.ow w) = some b := q
    split at q
    · cases q
    · exact q
  have ne : ∀ w b, g.ow w = some b → w ≠ .loc l → b ≠ a := fun w b q n z => n (S.inj _ _ a (z ▸ q) ha)
  have he : ∀ b, b ≠ a → upd H a (.ins (cla cls) dx (putF (Str.ofString f) v fv)) b = H b := fun b h => upd_ne h
  refine S.reInst hm ha (fun b o q => ?_) le (fun w b n => ⟨ow w b, fun q => ?_⟩) (fun w w' b q q' => S.inj w w' b (ow w b q) (ow w' b q')) (fun w b q => S.nfz w b (ow w b q)) (fun w b q => ?_) (fun w b q n1 n2 => he b (ne w b q n2)) ⟨dx, _, upd_same, ?_⟩ (setF_nodup nd) hlen
  · rw [he b (fun z => by have := S.nfz _ _ ha; rw [z] at q; rw [show g.fz a = _ from q] at this; cases this)]
    exact S.fz b o q
  · show (if w = .fld l f then none else g.ow w) = some b
    rw [if_neg (n f)]; exact q
  · by_cases z : b = a
    · rw [z, upd_same]; intro q; cases q
    · rw [he b z]; exact S.trk w b (ow w b q)
  · refine hF.put nd (fun f' b n q => he b (ne _ b q (fun z => by cases z))) le (fun f' b n q => ?_) (VR.mono le r)
    show (if Own.fld l f' = .fld l f then none else g.ow (.fld l f')) = some b
    rw [if_neg (by intro z; cases z; exact n rfl)]; exact q
/-- x.f = a new container -/
theorem SR.setFldOwn (S : SR K cla H g σ τ m) {cls f : String} {fs : List (String × Slot)} {dx b : Addr} {fv : List (Str × V)} {c : Ct} (hm : m[l]? = some (.inst cls fs)) (ha : g.ow (.loc l) = some a) (hH : H a = some (.ins (cla cls) dx fv)) (hF : FsR K H g l fv fs) (nd : (fs.map (·.1)).Nodup) (hlen : (setF f (.own c) fs).length < 900)
    (r : CR K H g b c) (hn : ∀ w, g.ow w ≠ some b) (hz : g.fz b = none) : SR K cla (upd H a (.ins (cla cls) dx (putF (Str.ofString f) (.ref b) fv))) (g.give (.fld l f) b) σ τ (m.set l (.inst cls (setF f (.own c) fs))) := by
  have le : g.le (g.give (.fld l f) b) := ⟨fun _ _ q => q, fun l' c q => by
    show (if Own.loc l' = .fld l f then some b else g.ow (.loc l')) = some c
    rw [if_neg (by intro z; cases z)]; exact q⟩
  have ow : ∀ w c, (g.give (.fld l f) b).ow w = some c → (w = .fld l f ∧ c = b) ∨ (w ≠ .fld l f ∧ g.ow w = some c) := fun w c q => by
    have q : (if w = .fld l f then some b else g.ow w) = some c := q
    split at q
    · rename_i z; cases q; exact .inl ⟨z, rfl⟩
    · rename_i z; exact .inr ⟨z, q⟩
  have ne : ∀ w c, g.ow w = some c → w ≠ .loc l → c ≠ a := fun w c q n z => n (S.inj _ _ a (z ▸ q) ha)
  have hba : b ≠ a := fun z => hn _ (z ▸ ha)
  have he : ∀ c, c ≠ a → upd H a (.ins (cla cls) dx (putF (Str.ofString f) (.ref b) fv)) c = H c := fun c h => upd_ne h
  have hHb : H b ≠ none := by
    cases c with
    | lst xs => obtain ⟨vs, e, _⟩ := r; rw [e]; intro z; cases z
    | dict xs => obtain ⟨vs, e, _⟩ := r; rw [e]; intro z; cases z
  refine S.reInst hm ha (fun c o q => ?_) le (fun w c n => ⟨fun q => ?_, fun q => ?_⟩) (fun w w' c q q' => ?_) (fun w c q => ?_) (fun w c q => ?_) (fun w c q n1 n2 => he c (ne w c q n2)) ⟨dx, _, upd_same, ?_⟩ (setF_nodup nd) hlen
  · rw [he c (fun z => by have := S.nfz _ _ ha; rw [z] at q; rw [show g.fz a = _ from q] at this; cases this)]
    exact S.fz c o q
  · rcases ow w c q with ⟨z, _⟩ | ⟨_, y⟩
    · exact absurd z (n f)
    · exact y
  · show (if w = .fld l f then some b else g.ow w) = some c
    rw [if_neg (n f)]; exact q
  · rcases ow w c q with ⟨z, y⟩ | ⟨z, y⟩ <;> rcases ow w' c q' with ⟨z', y'⟩ | ⟨z', y'⟩
    · rw [z, z']
    · subst y; exact absurd y' (hn w')
    · subst y'; exact absurd y (hn w)
    · exact S.inj w w' c y y'
  · rcases ow w c q with ⟨z, y⟩ | ⟨z, y⟩
    · subst y; exact hz
    · exact S.nfz w c y
  · by_cases z : c = a
    · rw [z, upd_same]; intro q; cases q
    · rw [he c z]
      rcases ow w c q with ⟨_, y⟩ | ⟨_, y⟩
      · subst y; exact hHb
      · exact S.trk w c y
  · refine hF.put nd (fun f' c n q => he c (ne _ c q (fun z => by cases z))) le (fun f' c n q => ?_) ⟨b, rfl, if_pos rfl, r.mono (he b hba) le⟩
    show (if Own.fld l f' = .fld l f then some b else g.ow (.fld l f')) = some c
    rw [if_neg (by intro z; cases z; exact n rfl)]; exact q
/-- the container of a field is written -/
theorem SR.writeFld (S : SR K cla H g σ τ m) {cls f : String} {fs : List (String × Slot)} {b : Addr} {c c' : Ct} (hm : m[l]? = some (.inst cls fs)) (hs : fs.lookup f = some (.own c)) (hw : g.ow (.fld l f) = some b) (r : CR K (upd H b o) g b c') :
    SR K cla (upd H b o) g σ τ (m.set l (.inst cls (setF f (.own c') fs))) := by
  obtain ⟨a, dx, fv, ha, hH, hF, nd, hlen⟩ := S.instAt hm
  obtain ⟨v, hv, hsl⟩ := hF.get hs
  obtain ⟨b', ev, hw', _⟩ := hsl
  rw [hw] at hw'; cases hw'
  have hba : a ≠ b := fun z => by have := S.inj _ _ b hw (z ▸ ha); cases this
  have he : ∀ w c, g.ow w = some c → w ≠ .fld l f → upd H b o c = H c := fun w c q n => upd_ne fun z => n (S.inj w _ c q (z ▸ hw))
  refine S.reInst hm ha (fun c o' q => ?_) .refl (fun w c n => Iff.rfl) S.inj S.nfz (fun w c q => ?_) (fun w c q n1 n2 => he w c q (n1 f)) ⟨dx, fv, (upd_ne hba).trans hH, ?_⟩ (setF_nodup nd) (by rw [setF_there hs]; exact hlen)
  · rw [upd_ne (fun z => by have := S.nfz _ _ hw; rw [z] at q; rw [q] at this; cases this)]
    exact S.fz c o' q
  · by_cases z : c = b
    · rw [z, upd_same]; intro q; cases q
    · rw [upd_ne z]; exact S.trk w c q
  · have := hF.put (f := f) (v := v) (s := .own c') (H' := upd H b o) (g' := g) nd (fun f' c n q => he _ c q (by intro z; cases z; exact n rfl)) .refl (fun _ _ _ q => q) ⟨b, ev, hw, r⟩
    rwa [putF_self hv] at this
/-- the container of a field never changes any more -/
theorem SR.freezeFld (S : SR K cla H g σ τ m) {cls f : String} {fs : List (String × Slot)} {c : Ct} (hm : m[l]? = some (.inst cls fs)) (hs : fs.lookup f = some (.own c)) :
    ∃ b o, g.ow (.fld l f) = some b ∧ SR K cla H ((g.drop (.fld l f)).freeze b o) σ τ (m.set l (.inst cls (setF f (.val c.toD) fs))) ∧ (g.drop (.fld l f)).fz b = none := by
  obtain ⟨a, dx, fv, ha, hH, hF, nd, hlen⟩ := S.instAt hm
  obtain ⟨v, hv, hsl⟩ := hF.get hs
  obtain ⟨b, ev, hw, cr⟩ := hsl
  have hho : ∃ o, H b = some o := by
    cases c with
    | lst xs => obtain ⟨vs, e1, _⟩ := cr; exact ⟨_, e1⟩
    | dict kvs => obtain ⟨kv, e1, _⟩ := cr; exact ⟨_, e1⟩
  obtain ⟨o, ho⟩ := hho
  have hz : g.fz b = none := S.nfz _ _ hw
  have le : g.le ((g.drop (.fld l f)).freeze b o) := ⟨fun c u q => by
    show (if c = b then some o else g.fz c) = some u
    rw [if_neg (fun z => by rw [z, hz] at q; cases q)]; exact q, fun l' c q => by
    show (if Own.loc l' = .fld l f then none else g.ow (.loc l')) = some c
    rw [if_neg (by intro z; cases z)]; exact q⟩
  have ow : ∀ w c, ((g.drop (.fld l f)).freeze b o).ow w = some c → w ≠ .fld l f ∧ g.ow w = some c := fun w c q => by
    have q : (if w = .fld l f then none else g.ow w) = some c := q
    split at q
    · cases q
    · rename_i z; exact ⟨z, q⟩
  refine ⟨b, o, hw, S.reInst hm ha (fun c u q => ?_) le (fun w c n => ⟨fun q => (ow w c q).2, fun q => ?_⟩) (fun w w' c q q' => S.inj w w' c (ow w c q).2 (ow w' c q').2) (fun w c q => ?_) (fun w c q => S.trk w c (ow w c q).2) (fun _ _ _ _ _ => rfl) ⟨dx, fv, hH, ?_⟩ (setF_nodup nd) (by rw [setF_there hs]; exact hlen), hz⟩
  · have q : (if c = b then some o else g.fz c) = some u := q
    split at q
    · rename_i z; cases q; rw [z]; exact ho
    · exact S.fz c u q
  · show (if w = .fld l f then none else g.ow w) = some c
    rw [if_neg (n f)]; exact q
  · obtain ⟨n, q⟩ := ow w c q
    show (if c = b then some o else g.fz c) = none
    rw [if_neg (fun z : c = b => n (S.inj w _ c q (z ▸ hw)))]
    exact S.nfz w c q
  · have hv2 : VR K ((g.drop (.fld l f)).freeze b o) v c.toD := by
      subst ev
      cases c with
      | lst xs =>
        obtain ⟨vs, e1, r⟩ := cr
        rw [ho] at e1; cases e1
        exact .fl (.inl (if_pos rfl)) (r.mono le)
      | dict kvs =>
        obtain ⟨kv, e1, r⟩ := cr
        rw [ho] at e1; cases e1
        exact .fd (if_pos rfl) (r.mono le)
    have := hF.put (f := f) (v := v) (s := .val c.toD) (H' := H) (g' := (g.drop (.fld l f)).freeze b o) nd (fun _ _ _ _ => rfl) le (fun f' c n q => by
      show (if Own.fld l f' = .fld l f then none else g.ow (.fld l f')) = some c
      rw [if_neg (by intro z; cases z; exact n rfl)]; exact q) hv2
    rwa [putF_self hv] at this
/-- a new instance, without fields -/
theorem SR.giveInst (S : SR K cla H g σ τ m) {cls : String} {x dx : Addr} (hx : H x = none) (hd : H dx = none) (ne : dx ≠ x) :
    SR K cla (upd (upd H dx (.own x)) x (.ins (cla cls) dx [])) (g.give (.loc m.length) x) σ τ (m ++ [.inst cls []]) := by
  have hno : g.ow (.loc m.length) = none := by
    cases e : g.ow (.loc m.length) with
    | none => rfl
    | some b => exact absurd (S.dom _ _ e) (Nat.lt_irrefl _)
  have le : g.le (g.give (.loc m.length) x) := ⟨fun _ _ q => q, fun l b q => by
    show (if Own.loc l = .loc m.length then some x else g.ow (.loc l)) = some b
    rw [if_neg (by intro z; rw [z, hno] at q; cases q)]; exact q⟩
  have hle : ∀ w b, g.ow w = some b → (g.give (.loc m.length) x).ow w = some b := fun w b q => by
    show (if w = .loc m.length then some x else g.ow w) = some b
    rw [if_neg (by intro z; rw [z, hno] at q; cases q)]; exact q
  have ow : ∀ w b, (g.give (.loc m.length) x).ow w = some b → (w = .loc m.length ∧ b = x) ∨ g.ow w = some b := fun w b q => by
    have q : (if w = .loc m.length then some x else g.ow w) = some b := q
    split at q
    · rename_i z; cases q; exact .inl ⟨z, rfl⟩
    · exact .inr q
  have nx : ∀ b o, H b = some o → b ≠ x ∧ b ≠ dx := fun b o e => ⟨ne_of_none e hx, ne_of_none e hd⟩
  have he : ∀ b o, H b = some o → upd (upd H dx (.own x)) x (.ins (cla cls) dx []) b = some o := fun b o e => by rw [upd_ne (nx b o e).1, upd_ne (nx b o e).2]; exact e
  have same : ∀ w b, g.ow w = some b → upd (upd H dx (.own x)) x (.ins (cla cls) dx []) b = H b := fun w b q => by
    cases e : H b with
    | none => exact absurd e (S.trk w b q)
    | some o => exact he b o e
  refine ⟨⟨fun b o q => he b o (S.fz b o q), fun w w' b h h' => ?_, fun w b h => ?_, fun w b h => ?_, fun l o e => ?_, fun l b h => ?_, fun l f b h => ?_⟩, S.len, fun j s e => ?_⟩
  · rcases ow w b h with ⟨z, y⟩ | y <;> rcases ow w' b h' with ⟨z', y'⟩ | y'
    · rw [z, z']
    · subst y; exact absurd hx (S.trk _ _ y')
    · subst y'; exact absurd hx (S.trk _ _ y)
    · exact S.inj w w' b y y'
  · rcases ow w b h with ⟨z, y⟩ | y
    · subst y; exact S.none_fz hx
    · exact S.nfz w b y
  · rcases ow w b h with ⟨z, y⟩ | y
    · subst y; rw [upd_same]; intro q; cases q
    · rw [same w b y]; exact S.trk w b y
  · by_cases hl : l < m.length
    · rw [List.getElem?_append_left hl] at e
      exact (S.obj l o e).mono' (fun b q => same _ b q) (fun f b q => same _ b q) le fun f b q => hle _ b q
    · rw [List.getElem?_append_right (by omega)] at e
      have hl2 : l = m.length := by
        by_cases z : l - m.length = 0
        · omega
        · rw [List.getElem?_eq_none (by simp; omega)] at e; cases e
      subst hl2
      rw [Nat.sub_self] at e
      cases e
      exact ⟨x, dx, [], if_pos rfl, upd_same, .nil, by simp, by simp⟩
  · rw [List.length_append, List.length_singleton]
    rcases ow _ b h with ⟨z, y⟩ | y
    · cases z; omega
    · have := S.dom l b y; omega
  · rw [List.length_append, List.length_singleton]
    rcases ow _ b h with ⟨z, y⟩ | y
    · cases z
    · have := S.domf l f b y; omega
  · obtain ⟨u, e1, r1⟩ := S.slot j s e
    exact ⟨u, e1, r1.mono (fun b q => same _ b q) le fun b q => hle _ b q⟩
end
end P3
set_option Elab.async false
set_option linter.all false
set_option maxRecDepth 100000
/-! P3C: the small Python's syntax (names by slots) and its run -/
namespace P3
open PySem L2
/-! ### data -/
mutual
def D.eqv : D → D → Bool
  | .non, .non => true
  | .bl a, .bl b => a == b
  | .bl a, .int j => (if a then 1 else 0) == j
  | .int i, .bl b => i == (if b then 1 else 0)
  | .int i, .int j => i == j
  | .str x, .str y => x == y
  | .tup xs, .tup ys => D.eqvs xs ys
  | .fl xs, .fl ys => D.eqvs xs ys
  | _, _ => false
def D.eqvs : List D → List D → Bool
  | [], [] => true
  | x :: xs, y :: ys => D.eqv x y && D.eqvs xs ys
  | _, _ => false
end
mutual
/-- no dict and no place of the memory in it -/
def D.isData : D → Bool
  | .tup xs => D.areData xs
  | .fl xs => D.areData xs
  | .fd _ => false
  | .loc _ => false
  | .fn _ => false
  | _ => true
def D.areData : List D → Bool
  | [] => true
  | x :: xs => D.isData x && D.areData xs
end
mutual
/-- nested at most so deep -/
def D.shal : Nat → D → Bool
  | 0, .tup _ => false
  | 0, .fl _ => false
  | n + 1, .tup xs => D.shals n xs
  | n + 1, .fl xs => D.shals n xs
  | _, _ => true
def D.shals : Nat → List D → Bool
  | _, [] => true
  | n, x :: xs => D.shal n x && D.shals n xs
end
/-- how deep one of two that are compared may be -/
def deepest : Nat := 200
def eqD (a b : D) : Option Bool := if a.isData && b.isData && (a.shal deepest || b.shal deepest) then some (a.eqv b) else none
def D.isNon : D → Bool
  | .non => true
  | _ => false
def D.flat : D → Bool
  | .non => true
  | .bl _ => true
  | .int _ => true
  | .str _ => true
  | _ => false
inductive BOp where
  | add | sub | mul | fdiv | mod
inductive COp where
  | eq | ne | lt | le | gt | ge | is_ | isnt | in_ | nin
inductive IT where
  | tuple | list | bool | int | str
inductive BF where
  | len | tuple | list | int | all | any | sum | max
inductive Tgt where
  | name (i : Nat) | tup (is : List Nat)
mutual
inductive ME where
  | var (i : Nat) | glob (x : String) | int (i : Int) | str (s : String) | bl (b : Bool) | non
  | tup (es : MEs) | lst (es : MEs) | neg (a : Nat)
  | bin (op : BOp) (a b : ME) | cmp (op : COp) (a b : ME) | chain (o1 o2 : COp) (a b c : ME)
  | not (a : ME) | and (a : ME) (b : ME) | or (a b : ME) | one (a : ME) | ife (c a b : ME)
  | idx (a i : ME) | slc (a : ME) (lo hi : MEs)
  | call (f : String) (args : MEs) | blt (f : BF) (a : ME) | sset (a : ME) | mx (a b : ME) | isi (a : ME) (t : IT)
  | lc (elt : ME) (tg : Tgt) (it : MI) (cond : MEs) (own : List (String × Nat))
  | alloc (a : ME)
  | kget (x : String) (e : ME) | kin (neg : Bool) (x : String) (e : ME) | dct (es : MEs) | srt (a : ME)
  | fld (c : String) (a : ME) (f : String) | meth (o : ME) (c m key : String) (args : MEs) | make (c : String) (args : MEs) | never
inductive MEs where
  | nil | cons (e : ME) (es : MEs)
inductive MI where
  | seq (e : ME) | range1 (a : ME) | range2 (a b : ME) | zip (a b : ME)
end
mutual
inductive MS where
  | pass | cont | brk | ret (e : ME) | retN | expr (e : ME) | set (i : Nat) (e : ME) | asg (is : List Nat) (e : ME) | par (is : List Nat) (es : MEs)
  | iff (c : ME) (a b : MSs) | for_ (tg : Tgt) (it : MI) (body : MSs) | whil (c : ME) (body : MSs)
  | setIdx (a i e : ME) | append (a e : ME) | extend (a e : ME) | freeze (i : Nat)
  | setFld (c : String) (o : Nat) (f : String) (e : ME) | frzFld (c : String) (o : Nat) (f : String) | never | aug (i : Nat) (op : BOp) (e : ME) | augFld (c : String) (o : Nat) (f : String) (op : BOp) (e : ME)
inductive MSs where
  | nil | cons (s : MS) (ss : MSs)
end
structure Fn where
  params : Nat
  names : List String
  body : MSs
/-- the module's values: constants, tables with text keys -/
structure Cons where
  cs : List (String × D)
  ts : List (String × List (String × D)) := []
def Cons.lookup (c : Cons) (x : String) : Option D := c.cs.lookup x
def Cons.tab (c : Cons) (x : String) : Option (List (String × D)) := c.ts.lookup x
structure GE where
  fns : List (String × Fn)
  consts : Cons
  globs : List String := []
  flds : List (String × String) := []
  meths : List (String × String × String) := []
  makes : List (String × String) := []
abbrev Call := String → List D → Mem → Out Rv
inductive SOut where
  | stuck | nx (τ : Tau) (m : Mem) | ct (τ : Tau) (m : Mem) | bk (τ : Tau) (m : Mem) | ret (r : Rv) (m : Mem) | exc (e : Exn) (τ : Tau) (m : Mem)
/-! ### operations -/
/-- the largest length -/
def lim : Nat := 1000000
def toV (o : Out Rv) : Out D := o.bind fun r m => .ok r.toD m
def opt {α : Type} (o : Option α) (m : Mem) : Out α := match o with
  | some a => .ok a m
  | none => .stuck
def deref (m : Mem) : D → D
  | .loc l => (match m[l]? with
    | some (.ct c) => c.toD
    | _ => .loc l)
  | d => d
/-- a field that has a container of its own -/
def fldOwn (m : Mem) (c f : String) : Option (Option Slot) → Option (Nat × List (String × Slot) × Ct)
  | some (some (.val (.loc l))) => (match m[l]? with
    | some (.inst c' fs) => if c' = c then (match fs.lookup f with
      | some (.own k) => some (l, fs, k)
      | _ => none) else none
    | _ => none)
  | _ => none
/-- a field's value -/
def fldEv (m : Mem) (c f : String) : D → Option D
  | .loc l => (match m[l]? with
    | some (.inst c' fs) => if c' = c then (match fs.lookup f with
      | some (.val d) => some d
      | _ => none) else none
    | _ => none)
  | _ => none
/-- a field is stored -/
def fldPut (m : Mem) (c f : String) (s : Slot) : D → Option Mem
  | .loc l => (match m[l]? with
    | some (.inst c' fs) => if c' = c ∧ (setF f s fs).length < 900 then some (m.set l (.inst c (setF f s fs))) else none
    | _ => none)
  | _ => none
/-- an instance of a class that has not this name among its fields -/
def instOf (m : Mem) (c f : String) : D → Option Unit
  | .loc l => (match m[l]? with
    | some (.inst c' fs) => if c' = c ∧ fs.lookup f = none then some () else none
    | _ => none)
  | _ => none
def augB : BOp → Bool
  | .add => true
  | .sub => true
  | _ => false
def augEv : BOp → D → D → Option D
  | .add, .int i, .int j => some (.int (i + j))
  | .sub, .int i, .int j => some (.int (i - j))
  | _, _, _ => none
def slotVal : Option (Option Slot) → Option D
  | some (some (.val d)) => some d
  | _ => none
/-- a slot that has a container of its own -/
def ME.own? (τ : Tau) : ME → Option (Nat × Ct)
  | .var i => (match τ[i]? with
    | some (some (.own c)) => some (i, c)
    | _ => none)
  | _ => none
/-- an operand that is just looked at -/
def pk (e : ME) (τ : Tau) (m : Mem) (o : Out Rv) : Out D := match e.own? τ with
  | some (_, c) => .ok c.toD m
  | none => toV o
/-- the item at a place of any sign -/
def placeOf (n : Nat) (i : Int) : Option Nat := if 0 ≤ i then (if i < n then some i.toNat else none) else if -(n : Int) ≤ i then some (i + n).toNat else none
def D.at (xs : List D) (i : Int) : Option D := (placeOf xs.length i).bind fun j => xs[j]?
/-- a dict's value at a key -/
def lookK (kvs : List (D × D)) (k : D) : Option D := (kvs.find? fun p => p.1.eqv k).map (·.2)
def isKey : D → Bool
  | .int _ => true
  | .str _ => true
  | _ => false
def idxEv (a i : D) : Option D := match a, i with
  | .fd kvs, k => if isKey k then lookK kvs k else none
  | .tup xs, .int i => if xs.length ≤ lim then D.at xs i else none
  | .fl xs, .int i => if xs.length ≤ lim then D.at xs i else none
  | _, _ => none
/-- where a part begins or ends -/
def cutAt (n : Nat) (d : Nat) : Option Int → Nat
  | none => d
  | some i => if i < 0 then (i + n).toNat else min i.toNat n
def cut (xs : List D) (lo hi : Option Int) : List D := (xs.drop (cutAt xs.length 0 lo)).take (cutAt xs.length xs.length hi - cutAt xs.length 0 lo)
def slcEv (a : D) (lo hi : Option Int) : Option Rv := match a with
  | .tup xs => if xs.length ≤ lim then some (.val (.tup (cut xs lo hi))) else none
  | .fl xs => if xs.length ≤ lim then some (.own (.lst (cut xs lo hi))) else none
  | _ => none
def asInt : D → Option Int
  | .int i => some i
  | _ => none
def asBool : D → Option Bool
  | .bl b => some b
  | _ => none
def small (i : Int) : Bool := decide (-18446744073709551616 < i) && decide (i < 18446744073709551616)
def binEv : BOp → D → D → Option Rv
  | .add, .int i, .int j => some (.val (.int (i + j)))
  | .sub, .int i, .int j => some (.val (.int (i - j)))
  | .mul, .int i, .int j => if small i || small j then some (.val (.int (i * j))) else none
  | .fdiv, .int i, .int j => if decide (0 < j) && decide (j < 1073741824) then some (.val (.int (i / j))) else none
  | .mod, .int i, .int j => if decide (0 < j) then some (.val (.int (i % j))) else none
  | .add, .tup xs, .tup ys => if decide (xs.length + ys.length ≤ lim) then some (.val (.tup (xs ++ ys))) else none
  | .mul, .tup xs, .int k => if !xs.isEmpty && decide (xs.length ≤ 1000) && (decide (k = 0) || (decide (2 ≤ k) && decide (k ≤ 1000))) then some (.val (.tup (List.replicate k.toNat xs).flatten)) else none
  | .add, .fl xs, .fl ys => if decide (xs.length + ys.length ≤ lim) then some (.own (.lst (xs ++ ys))) else none
  | _, _, _ => none
def cmpEv : COp → D → D → Option D
  | .eq, a, b => (eqD a b).map .bl
  | .ne, a, b => (eqD a b).map fun k => .bl (!k)
  | .lt, .int i, .int j => some (.bl (decide (i < j)))
  | .le, .int i, .int j => some (.bl (decide (i ≤ j)))
  | .gt, .int i, .int j => some (.bl (decide (j < i)))
  | .ge, .int i, .int j => some (.bl (decide (j ≤ i)))
  | .is_, a, .non => some (.bl a.isNon)
  | .isnt, a, .non => some (.bl (!a.isNon))
  | .is_, .bl a, .bl b => some (.bl (a == b))
  | .isnt, .bl a, .bl b => some (.bl (!(a == b)))
  | .in_, a, .tup ys => if a.isData && D.areData ys && a.shal 100 then some (.bl (ys.any fun y => y.eqv a)) else none
  | .nin, a, .tup ys => if a.isData && D.areData ys && a.shal 100 then some (.bl (!ys.any fun y => y.eqv a)) else none
  | .in_, a, .fl ys => if a.isData && D.areData ys && a.shal 100 then some (.bl (ys.any fun y => y.eqv a)) else none
  | .in_, a, .fd kvs => if isKey a then some (.bl (lookK kvs a).isSome) else none
  | .nin, a, .fd kvs => if isKey a then some (.bl (!(lookK kvs a).isSome)) else none
  | .nin, a, .fl ys => if a.isData && D.areData ys && a.shal 100 then some (.bl (!ys.any fun y => y.eqv a)) else none
  | _, _, _ => none
def lenEv : D → Option Int
  | .tup xs => some xs.length
  | .fl xs => some xs.length
  | _ => none
def allBool : List D → Option (List Bool)
  | [] => some []
  | .bl b :: r => (allBool r).map (b :: ·)
  | _ => none
def allInt : List D → Option (List Int)
  | [] => some []
  | .int b :: r => (allInt r).map (b :: ·)
  | _ => none
def bfEv : BF → D → Option Rv
  | .len, d => (lenEv d).map fun n => .val (.int n)
  | .tuple, .tup xs => some (.val (.tup xs))
  | .tuple, .fl xs => some (.val (.tup xs))
  | .list, .tup xs => some (.own (.lst xs))
  | .list, .fl xs => some (.own (.lst xs))
  | .int, .int i => some (.val (.int i))
  | .int, .bl b => some (.val (.int (if b then 1 else 0)))
  | .all, .fl xs => (allBool xs).map fun bs => .val (.bl (bs.all id))
  | .any, .fl xs => (allBool xs).map fun bs => .val (.bl (bs.any id))
  | .sum, .fl xs => (allInt xs).map fun ns => .val (.int ns.sum)
  | .max, .fl xs => (match allInt xs with
    | some (n :: ns) => some (.val (.int (ns.foldl max n)))
    | _ => none)
  | _, _ => none
/-- pairs of small numbers -/
def pairsOf : List D → Option (List (Int × Int))
  | [] => some []
  | .tup [.int x, .int y] :: r => if 0 ≤ x ∧ x < 1000 ∧ 0 ≤ y ∧ y < 1000 then (pairsOf r).map ((x, y) :: ·) else none
  | _ => none
def ltP (a b : Int × Int) : Bool := decide (a.1 * 1000 + a.2 < b.1 * 1000 + b.2)
/-- put in order, once -/
def insP (p : Int × Int) : List (Int × Int) → List (Int × Int)
  | [] => [p]
  | q :: r => if ltP p q then p :: q :: r else if ltP q p then q :: insP p r else q :: r
def sortP (ps : List (Int × Int)) : List (Int × Int) := ps.foldr insP []
def pairD (p : Int × Int) : D := .tup [.int p.1, .int p.2]
/-- sorted(set(..)) of pairs -/
def ssetEv : D → Option Rv
  | .fl ds => if ds.length < 64 then (pairsOf ds).map fun ps => .own (.lst ((sortP ps).map pairD)) else none
  | _ => none
/-- put in order -/
def insD (p : Int × Int) : List (Int × Int) → List (Int × Int)
  | [] => [p]
  | q :: r => if ltP q p then q :: insD p r else p :: q :: r
def sortD (ps : List (Int × Int)) : List (Int × Int) := ps.foldr insD []
/-- sorted(..) of pairs -/
def srtEv : D → Option Rv
  | .fl ds => if ds.length < 64 then (pairsOf ds).map fun ps => .own (.lst ((sortD ps).map pairD)) else none
  | _ => none
/-- a written table -/
def tabGet : Option (List (String × D)) → D → Option D
  | some kvs, .str s => kvs.lookup s
  | _, _ => none
def tabIn (neg : Bool) : Option (List (String × D)) → D → Option Bool
  | some kvs, .str s => some (if neg then !(kvs.lookup s).isSome else (kvs.lookup s).isSome)
  | _, _ => none
/-- a dict's pairs, from keys and values by turns -/
def pairsD : List D → Option (List (D × D))
  | [] => some []
  | k :: v :: r => if isKey k then (pairsD r).map ((k, v) :: ·) else none
  | _ => none
def freshK : List (D × D) → Bool
  | [] => true
  | p :: r => r.all (fun q => !(q.1.eqv p.1)) && freshK r
def dictOf (ds : List D) : Option (List (D × D)) := (pairsD ds).bind fun kvs => if decide (kvs.length ≤ 15) && freshK kvs then some kvs else none
def mxEv : D → D → Option D
  | .int i, .int j => some (.int (if j > i then j else i))
  | _, _ => none
def isiEv : IT → D → Option Bool
  | _, .loc _ => none
  | _, .fn _ => none
  | .tuple, .tup _ => some true
  | .list, .fl _ => some true
  | .bool, .bl _ => some true
  | .int, .bl _ => some true
  | .int, .int _ => some true
  | .str, .str _ => some true
  | _, .fd _ => none
  | _, _ => some false
def setNames : List Nat → List D → Tau → Option Tau
  | [], [], τ => some τ
  | i :: is, d :: ds, τ => setNames is ds (τ.set i (some (.val d)))
  | _, _, _ => none
def tgEv (tg : Tgt) (d : D) (τ : Tau) : Option Tau := match tg with
  | .name i => some (τ.set i (some (.val d)))
  | .tup is => (match d with
    | .tup xs => if xs.length ≤ lim then setNames is xs τ else none
    | _ => none)
def itemsOf : D → Option (List D)
  | .tup xs => if xs.length ≤ lim then some xs else none
  | .fl xs => if xs.length ≤ lim then some xs else none
  | _ => none
/-- two tuples, two lists -/
def D.alike : D → D → Bool
  | .tup _, .tup _ => true
  | .fl _, .fl _ => true
  | _, _ => false
def rangeOf (lo hi : Int) : List D := (List.range (hi - lo).toNat).map fun k : Nat => .int (lo + (k : Int))
def midInt (i : Int) : Bool := decide (-1000000000 ≤ i) && decide (i ≤ 1000000000)
def zipOf : List D → List D → List D
  | x :: xs, y :: ys => .tup [x, y] :: zipOf xs ys
  | _, _ => []
def wipeT (τ : Tau) : List Nat → Tau
  | [] => τ
  | v :: vs => (wipeT τ vs).set v none
/-- a slot has no container of its own -/
def noOwn (τ : Tau) (i : Nat) : Bool := match τ[i]? with
  | some (some (.own _)) => false
  | _ => true
/-- nothing is raised -/
def noexc {α : Type} (o : Out α) : Out α := match o with
  | .ok a m => .ok a m
  | _ => .stuck
/-- a comprehension's turns -/
def lcEv (asg : D → Tau → Option Tau) (cond : Tau → Mem → Out Bool) (elt : Tau → Mem → Out D) : List D → Tau → Mem → List D → Out (List D)
  | [], _, m, acc => .ok acc m
  | x :: xs, τ, m, acc => (match asg x τ with
    | none => .stuck
    | some τ' => (cond τ' m).bind fun b m1 => if b then (elt τ' m1).bind fun d m2 => if acc.length < lim then lcEv asg cond elt xs τ m2 (acc ++ [d]) else .stuck else lcEv asg cond elt xs τ m1 acc)
/-- a for's turns -/
def forEv (asg : D → Tau → Option Tau) (body : Tau → Mem → SOut) : List D → Tau → Mem → SOut
  | [], τ, m => .nx τ m
  | x :: xs, τ, m => (match asg x τ with
    | none => .stuck
    | some τ' => (match body τ' m with
      | .nx τ1 m1 => forEv asg body xs τ1 m1
      | .ct τ1 m1 => forEv asg body xs τ1 m1
      | .bk τ1 m1 => .nx τ1 m1
      | r => r))
/-- a while's turns, at most so many -/
def whileN (c : Tau → Mem → Out Bool) (body : Tau → Mem → SOut) : Nat → Tau → Mem → SOut
  | 0, _, _ => .stuck
  | n + 1, τ, m => (match c τ m with
    | .stuck => .stuck
    | .exc e m1 => .exc e τ m1
    | .ok false m1 => .nx τ m1
    | .ok true m1 => (match body τ m1 with
      | .nx τ2 m2 => whileN c body n τ2 m2
      | .ct τ2 m2 => whileN c body n τ2 m2
      | .bk τ2 m2 => .nx τ2 m2
      | r => r))
open Classical in
noncomputable def whileEv (c : Tau → Mem → Out Bool) (body : Tau → Mem → SOut) (τ : Tau) (m : Mem) : SOut :=
  if h : ∃ n, whileN c body n τ m ≠ .stuck then whileN c body (Classical.choose h) τ m else .stuck
/-- a store to a place of a list -/
def putAt (c : Ct) (i d : D) : Option Ct := match c, i with
  | .lst xs, .int i => (placeOf xs.length i).map fun j => .lst (xs.set j d)
  | _, _ => none
def pushAt (c : Ct) (d : D) : Option Ct := match c with
  | .lst xs => if xs.length < lim then some (.lst (xs ++ [d])) else none
  | _ => none
def extAt (c : Ct) (d : D) : Option Ct := match c, d with
  | .lst xs, .tup ys => if xs.length + ys.length ≤ lim then some (.lst (xs ++ ys)) else none
  | .lst xs, .fl ys => if xs.length + ys.length ≤ lim then some (.lst (xs ++ ys)) else none
  | _, _ => none
def ctAt (m : Mem) : D → Option (Nat × Ct)
  | .loc l => (match m[l]? with
    | some (.ct c) => some (l, c)
    | _ => none)
  | _ => none
def outS (o : Out α) (τ : Tau) (k : α → Mem → SOut) : SOut := match o with
  | .stuck => .stuck
  | .ok a m => k a m
  | .exc e m => .exc e τ m
/-- it is a list -/
def lstAt (ow : Option (Nat × Ct)) (m : Mem) (x : D) : Bool := match ow with
  | some (_, .lst _) => true
  | some _ => false
  | none => (match ctAt m x with
    | some (_, .lst _) => true
    | _ => false)
/-- a container is written -/
def putS (ow : Option (Nat × Ct)) (τ : Tau) (m : Mem) (x : D) (f : Ct → Option Ct) : SOut := match ow with
  | some (k, c) => (match f c with
    | some c' => .nx (τ.set k (some (.own c'))) m
    | none => .stuck)
  | none => (match ctAt m x with
    | some (l, c) => (match f c with
      | some c' => .nx τ (m.set l (.ct c'))
      | none => .stuck)
    | none => .stuck)
def SOut.andThen (o : SOut) (k : Tau → Mem → SOut) : SOut := match o with
  | .nx τ m => k τ m
  | r => r
/-! ### the run -/
section
variable (GC : Cons) (C : Call)
mutual
noncomputable def evalE : ME → Tau → Mem → Out Rv
  | .var i, τ, m => (match τ[i]? with
    | some (some (.val d)) => .ok (.val d) m
    | _ => .stuck)
  | .glob x, _, m => (match GC.lookup x with
    | some d => .ok (.val d) m
    | none => .stuck)
  | .int i, _, m => .ok (.val (.int i)) m
  | .str s, _, m => .ok (.val (.str s)) m
  | .bl b, _, m => .ok (.val (.bl b)) m
  | .non, _, m => .ok (.val .non) m
  | .neg n, _, m => .ok (.val (.int (-(n : Int)))) m
  | .tup es, τ, m => (evalEs es τ m).bind fun ds m1 => if ds.length ≤ lim then .ok (.val (.tup ds)) m1 else .stuck
  | .lst es, τ, m => (evalEs es τ m).bind fun ds m1 => if ds.length ≤ lim then .ok (.own (.lst ds)) m1 else .stuck
  | .bin op a b, τ, m => (pk a τ m (evalE a τ m)).bind fun x m1 => (pk b τ m1 (evalE b τ m1)).bind fun y m2 => opt (binEv op x y) m2
  | .cmp op a b, τ, m => (pk a τ m (evalE a τ m)).bind fun x m1 => (pk b τ m1 (evalE b τ m1)).bind fun y m2 => (opt (cmpEv op x y) m2).bind fun d m3 => .ok (.val d) m3
  | .chain o1 o2 a b c, τ, m => (toV (evalE a τ m)).bind fun x m1 => (toV (evalE b τ m1)).bind fun y m2 => (opt (cmpEv o1 x y) m2).bind fun d m3 => (opt (asBool d) m3).bind fun k m4 =>
      if k then (toV (evalE c τ m4)).bind fun z m5 => (opt (cmpEv o2 y z) m5).bind fun d m6 => .ok (.val d) m6 else .ok (.val (.bl false)) m4
  | .not a, τ, m => (toV (evalE a τ m)).bind fun x m1 => (opt (asBool x) m1).bind fun k m2 => .ok (.val (.bl (!k))) m2
  | .and a b, τ, m => (toV (evalE a τ m)).bind fun x m1 => (opt (asBool x) m1).bind fun k m2 => if k then evalE b τ m2 else .ok (.val (.bl false)) m2
  | .or a b, τ, m => (toV (evalE a τ m)).bind fun x m1 => (opt (asBool x) m1).bind fun k m2 => if k then .ok (.val (.bl true)) m2 else evalE b τ m2
  | .one a, τ, m => evalE a τ m
  | .ife c a b, τ, m => (toV (evalE c τ m)).bind fun x m1 => (opt (asBool x) m1).bind fun k m2 => if k then evalE a τ m2 else evalE b τ m2
  | .idx a i, τ, m => (pk a τ m (evalE a τ m)).bind fun x m1 => (toV (evalE i τ m1)).bind fun y m2 => (opt (idxEv (deref m2 x) y) m2).bind fun d m3 => .ok (.val d) m3
  | .slc a lo hi, τ, m => (pk a τ m (evalE a τ m)).bind fun x m1 => (evalP lo τ m1).bind fun l m2 => (evalP hi τ m2).bind fun h m3 => opt (slcEv (deref m3 x) l h) m3
  | .call f es, τ, m => (evalEs es τ m).bind fun ds m1 => C f ds m1
  | .blt f a, τ, m => (pk a τ m (evalE a τ m)).bind fun x m1 => opt (bfEv f (deref m1 x)) m1
  | .sset a, τ, m => (pk a τ m (evalE a τ m)).bind fun x m1 => opt (ssetEv (deref m1 x)) m1
  | .srt a, τ, m => (pk a τ m (evalE a τ m)).bind fun x m1 => opt (srtEv (deref m1 x)) m1
  | .kget x e, τ, m => (toV (evalE e τ m)).bind fun k m1 => (opt (tabGet (GC.tab x) k) m1).bind fun d m2 => .ok (.val d) m2
  | .kin neg x e, τ, m => (toV (evalE e τ m)).bind fun k m1 => (opt (tabIn neg (GC.tab x) k) m1).bind fun b m2 => .ok (.val (.bl b)) m2
  | .dct es, τ, m => (evalEs es τ m).bind fun ds m1 => (opt (dictOf ds) m1).bind fun kvs m2 => .ok (.own (.dict kvs)) m2
  | .mx a b, τ, m => (toV (evalE a τ m)).bind fun x m1 => (toV (evalE b τ m1)).bind fun y m2 => (opt (mxEv x y) m2).bind fun d m3 => .ok (.val d) m3
  | .isi a t, τ, m => (toV (evalE a τ m)).bind fun x m1 => (opt (isiEv t x) m1).bind fun k m2 => .ok (.val (.bl k)) m2
  | .lc e tg it cond own, τ, m => (evalI it τ m).bind fun xs m1 => if (own.map (·.2)).all (noOwn τ) then
      (lcEv (tgEv tg) (fun τ m => noexc (evalT cond τ m)) (fun τ m => noexc (toV (evalE e τ m))) xs (wipeT τ (own.map (·.2))) m1 []).bind (fun ds m2 => .ok (.own (.lst ds)) m2) else .stuck
  | .alloc a, τ, m => (evalE a τ m).bind fun r m1 => (match r with
    | .own c => .ok (.val (.loc m1.length)) (m1 ++ [.ct c])
    | .val _ => .stuck)
  | .fld c a f, τ, m => (toV (evalE a τ m)).bind fun x m1 => (opt (fldEv m1 c f x) m1).bind fun d m2 => .ok (.val d) m2
  | .meth o c mt key es, τ, m => (toV (evalE o τ m)).bind fun x m1 => (opt (instOf m1 c mt x) m1).bind fun _ m2 => (evalEs es τ m2).bind fun ds m3 => C key (x :: ds) m3
  | .make c es, τ, m => (evalEs es τ m).bind fun ds m1 => C c ds m1
  | .never, _, _ => .stuck
noncomputable def evalEs : MEs → Tau → Mem → Out (List D)
  | .nil, _, m => .ok [] m
  | .cons e es, τ, m => (toV (evalE e τ m)).bind fun d m1 => (evalEs es τ m1).bind fun ds m2 => .ok (d :: ds) m2
/-- a part's end: one expression or none -/
noncomputable def evalP : MEs → Tau → Mem → Out (Option Int)
  | .nil, _, m => .ok none m
  | .cons e _, τ, m => (toV (evalE e τ m)).bind fun d m1 => (opt (asInt d) m1).bind fun i m2 => .ok (some i) m2
/-- a comprehension's test: one or none -/
noncomputable def evalT : MEs → Tau → Mem → Out Bool
  | .nil, _, m => .ok true m
  | .cons e _, τ, m => (toV (evalE e τ m)).bind fun d m1 => opt (asBool d) m1
noncomputable def evalI : MI → Tau → Mem → Out (List D)
  | .seq e, τ, m => (toV (evalE e τ m)).bind fun x m1 => opt (itemsOf x) m1
  | .range1 a, τ, m => (toV (evalE a τ m)).bind fun x m1 => (opt (asInt x) m1).bind fun i m2 => if midInt i then .ok (rangeOf 0 i) m2 else .stuck
  | .range2 a b, τ, m => (toV (evalE a τ m)).bind fun x m1 => (toV (evalE b τ m1)).bind fun y m2 => (opt (asInt x) m2).bind fun i m3 => (opt (asInt y) m3).bind fun j m4 => if midInt i && midInt j then .ok (rangeOf i j) m4 else .stuck
  | .zip a b, τ, m => (toV (evalE a τ m)).bind fun x m1 => (toV (evalE b τ m1)).bind fun y m2 => (opt (itemsOf x) m2).bind fun xs m3 => (opt (itemsOf y) m3).bind fun ys m4 => if x.alike y then .ok (zipOf xs ys) m4 else .stuck
end
noncomputable def evalV (e : ME) (τ : Tau) (m : Mem) : Out D := toV (evalE GC C e τ m)
noncomputable def evalB (e : ME) (τ : Tau) (m : Mem) : Out Bool := (toV (evalE GC C e τ m)).bind fun d m1 => opt (asBool d) m1
mutual
noncomputable def runS : MS → Tau → Mem → SOut
  | .pass, τ, m => .nx τ m
  | .cont, τ, m => .ct τ m
  | .brk, τ, m => .bk τ m
  | .expr e, τ, m => outS (evalE GC C e τ m) τ fun _ m1 => .nx τ m1
  | .ret e, τ, m => (match e.own? τ with
    | some (_, c) => .ret (.own c) m
    | none => outS (evalE GC C e τ m) τ fun r m1 => .ret r m1)
  | .retN, _, m => .ret (.val .non) m
  | .set i e, τ, m => outS (evalE GC C e τ m) τ fun r m1 => .nx (τ.set i (some r.slot)) m1
  | .asg is e, τ, m => outS (evalV GC C e τ m) τ fun d m1 => (match tgEv (.tup is) d τ with
    | some τ' => .nx τ' m1
    | none => .stuck)
  | .par is es, τ, m => outS (evalEs GC C es τ m) τ fun ds m1 => (match setNames is ds τ with
    | some τ' => .nx τ' m1
    | none => .stuck)
  | .iff c a b, τ, m => outS (evalB GC C c τ m) τ fun k m1 => if k then runSs a τ m1 else runSs b τ m1
  | .for_ tg it body, τ, m => outS (evalI GC C it τ m) τ fun xs m1 => forEv (tgEv tg) (fun τ m => runSs body τ m) xs τ m1
  | .whil c body, τ, m => whileEv (fun τ m => evalB GC C c τ m) (fun τ m => runSs body τ m) τ m
  | .setIdx a i e, τ, m => outS (evalV GC C e τ m) τ fun d m1 => outS (pk a τ m1 (evalE GC C a τ m1)) τ fun x m2 => outS (evalV GC C i τ m2) τ fun y m3 => putS (a.own? τ) τ m3 x (putAt · y d)
  | .append a e, τ, m => outS (pk a τ m (evalE GC C a τ m)) τ fun x m1 => if lstAt (a.own? τ) m1 x = false then .stuck else outS (evalV GC C e τ m1) τ fun d m2 => putS (a.own? τ) τ m2 x (pushAt · d)
  | .extend a e, τ, m => outS (pk a τ m (evalE GC C a τ m)) τ fun x m1 => if lstAt (a.own? τ) m1 x = false then .stuck else outS (evalV GC C e τ m1) τ fun d m2 => putS (a.own? τ) τ m2 x (extAt · d)
  | .freeze i, τ, m => (match τ[i]? with
    | some (some (.own c)) => .nx (τ.set i (some (.val c.toD))) m
    | some (some (.val _)) => .nx τ m
    | _ => .stuck)
  | .setFld c o f e, τ, m => outS (evalE GC C e τ m) τ fun r m1 => outS (opt (slotVal τ[o]?) m1) τ fun x m2 => outS (opt (fldPut m2 c f r.slot x) m2) τ fun m3 _ => .nx τ m3
  | .frzFld c o f, τ, m => (match fldOwn m c f τ[o]? with
    | some (l, fs, k) => .nx τ (m.set l (.inst c (setF f (.val k.toD) fs)))
    | none => .stuck)
  | .never, _, _ => .stuck
  | .aug i op e, τ, m => outS (opt (slotVal τ[i]?) m) τ fun x m0 => outS (evalV GC C e τ m0) τ fun y m1 => outS (opt (augEv op x y) m1) τ fun z m2 => .nx (τ.set i (some (.val z))) m2
  | .augFld c o f op e, τ, m => outS (opt (slotVal τ[o]?) m) τ fun x m0 => outS (opt (fldEv m0 c f x) m0) τ fun d m1 => outS (evalV GC C e τ m1) τ fun y m2 => outS (opt (augEv op d y) m2) τ fun z m3 => outS (opt (fldPut m3 c f (.val z) x) m3) τ fun m4 _ => .nx τ m4
noncomputable def runSs : MSs → Tau → Mem → SOut
  | .nil, τ, m => .nx τ m
  | .cons s ss, τ, m => (runS s τ m).andThen fun τ1 m1 => runSs ss τ1 m1
end
end
/-- a call, with so many calls one in another -/
noncomputable def callN (G : GE) : Nat → Call
  | 0, _, _, _ => .stuck
  | n + 1, f, ds, m => (match G.fns.lookup f with
    | none => (match G.makes.lookup f with
      | none => .stuck
      | some key => (callN G n key (.loc m.length :: ds) (m ++ [.inst f []])).bind fun r m2 => (match r with
        | .val .non => .ok (.val (.loc m.length)) m2
        | _ => .stuck))
    | some fn => if ds.length = fn.params then (match runSs G.consts (callN G n) fn.body (ds.map (fun d => some (.val d)) ++ List.replicate (fn.names.length - fn.params) none) m with
      | .nx _ m1 => .ok (.val .non) m1
      | .ret r m1 => .ok r m1
      | .exc e _ m1 => .exc e m1
      | _ => .stuck) else .stuck)
end P3
set_option Elab.async false
set_option linter.all false
set_option maxRecDepth 100000
/-! P3D: which text a run is of -/
namespace P3
open PySem L2
def visB (sc : Scope) (x : Str) : Bool := match sc.names.lookup x with
  | some .local => true
  | some .cell => true
  | some .free => true
  | _ => false
def locB (sc : Scope) (x : Str) : Bool := match sc.names.lookup x with
  | some .local => true
  | some .cell => true
  | _ => false
def loclB (sc : Scope) (x : Str) : Bool := match sc.names.lookup x with
  | some .local => true
  | _ => false
def celB (sc : Scope) (x : Str) : Bool := match sc.names.lookup x with
  | some .cell => true
  | _ => false
def glB (sc : Scope) (x : Str) : Bool := match sc.names.lookup x with
  | some .globalImplicit => true
  | _ => false
def plainName (x : Str) : Bool := !(x == ("__debug__" : Str)) && !(x == ("__classdict__" : Str)) && !(x == ("__name__" : Str))
/-- is no slice, no star, no set: a plain expression -/
def plainX : Expr → Bool
  | .Slice .. => false
  | .Starred .. => false
  | .Set .. => false
  | _ => true
/-- what makes a container -/
def allocX : Expr → Bool
  | .List .. => true
  | .Call .. => true
  | .BinOp .. => true
  | .Subscript .. => true
  | .Dict .. => true
  | _ => false
def recvX : Expr → Bool
  | .Name .. => true
  | .Subscript .. => true
  | .Attribute .. => true
  | _ => false
def plainTest : Expr → Bool
  | .UnaryOp .Not _ _ => false
  | .BoolOp _ _ _ => false
  | .IfExp _ _ _ _ => false
  | .Compare _ _ _ _ => false
  | _ => true
def isComp : Expr → Bool
  | .ListComp .. => true
  | .SetComp .. => true
  | .DictComp .. => true
  | _ => false
def opB : BOp → Operator → Bool
  | .add, .Add => true
  | .sub, .Sub => true
  | .mul, .Mult => true
  | .fdiv, .FloorDiv => true
  | .mod, .Mod => true
  | _, _ => false
def copB : COp → CmpOp → Bool
  | .eq, .Eq => true
  | .ne, .NotEq => true
  | .lt, .Lt => true
  | .le, .LtE => true
  | .gt, .Gt => true
  | .ge, .GtE => true
  | .is_, .Is => true
  | .isnt, .IsNot => true
  | .in_, .In => true
  | .nin, .NotIn => true
  | _, _ => false
def Tgt.within (vs : List Nat) : Tgt → Bool
  | .name i => vs.contains i
  | .tup is => is.all vs.contains
def BF.name : BF → String
  | .len => "len"
  | .tuple => "tuple"
  | .list => "list"
  | .int => "int"
  | .all => "all"
  | .any => "any"
  | .sum => "sum"
  | .max => "max"
def IT.name : IT → String
  | .tuple => "tuple"
  | .list => "list"
  | .bool => "bool"
  | .int => "int"
  | .str => "str"
/-- what of the module a text may name: functions, fields, methods, makers -/
structure Tb where
  fn : String → Bool
  tab : String → Bool
  fa : String → String → Bool
  fm : String → String → String → Bool
  mkr : String → Bool
def GE.tb (G : GE) : Tb := ⟨fun f => G.globs.contains f, fun x => (G.consts.tab x).isSome, fun c f => G.flds.contains (c, f), fun c m k => G.meths.contains (c, m, k), fun c => (G.makes.lookup c).isSome⟩
section
variable (FN : Tb) (N : List Str)
/-- the name x is the slot i -/
def slotB (sc : Scope) (i : Nat) (x : Str) : Bool := decide (N[i]? = some x) && visB sc x && plainName x
def slotsB (sc : Scope) : List Nat → List Expr → Bool
  | [], [] => true
  | i :: is, .Name x _ :: es => decide (N[i]? = some x) && locB sc x && plainName x && slotsB sc is es
  | _, _ => false
def tgB (sc : Scope) : Tgt → Expr → Bool
  | .name i, .Name x _ => decide (N[i]? = some x) && locB sc x && plainName x
  | .tup is, .Tuple es _ _ => slotsB N sc is es
  | _, _ => false
mutual
def mtE (sc : Scope) : ME → Expr → Bool
  | .var i, .Name x _ => slotB N sc i x
  | .glob y, .Name x _ => decide (Str.ofString y = x) && glB sc x && plainName x
  | .int i, .Constant (.int j) _ _ => decide (i = j)
  | .str s, .Constant (.str x) _ _ => decide (Str.ofString s = x)
  | .bl b, .Constant (.bool c) _ _ => b == c
  | .non, .Constant .none _ _ => true
  | .neg n, .UnaryOp .USub (.Constant (.int j) _ _) _ => decide ((n : Int) = j)
  | .tup es, .Tuple xs _ _ => mtEs sc es xs
  | .lst es, .List xs _ => mtEs sc es xs
  | .bin op a b, .BinOp x o y _ => opB op o && mtE sc a x && mtE sc b y
  | .cmp op a b, .Compare x [o] [y] _ => copB op o && plainX y && mtE sc a x && mtE sc b y
  | .chain o1 o2 a b c, .Compare x [p1, p2] [y, z] _ => copB o1 p1 && copB o2 p2 && plainX y && plainX z && mtE sc a x && mtE sc b y && mtE sc c z
  | .not a, .UnaryOp .Not x _ => mtE sc a x
  | .and a b, .BoolOp .And (x :: y :: r) p => mtE sc a x && mtE sc b (.BoolOp .And (y :: r) p)
  | .or a b, .BoolOp .Or (x :: y :: r) p => mtE sc a x && mtE sc b (.BoolOp .Or (y :: r) p)
  | .one a, .BoolOp _ [x] _ => mtE sc a x
  | .ife c a b, .IfExp x y z _ => mtE sc c x && mtE sc a y && mtE sc b z
  | .idx a i, .Subscript x y _ => plainX y && mtE sc a x && mtE sc i y
  | .slc a lo hi, .Subscript x (.Slice l h none _) _ => mtE sc a x && mtO sc lo l && mtO sc hi h
  | .call f es, .Call (.Name x _) (y :: ys) [] _ => FN.fn f && decide (Str.ofString f = x) && glB sc x && plainName x && mtEs sc es (y :: ys)
  | .call f .nil, .Call (.Name x _) [] [] _ => FN.fn f && decide (Str.ofString f = x) && glB sc x && plainName x
  | .sset a, .Call (.Name x _) [.Call (.Name y _) [z] [] _] [] _ => decide (x = "sorted") && glB sc x && decide (y = "set") && glB sc y && plainX z && mtE sc a z
  | .srt a, .Call (.Name x _) [z] [] _ => decide (x = "sorted") && glB sc x && plainX z && mtE sc a z
  | .kget y a, .Subscript (.Name x _) z _ => FN.tab y && decide (Str.ofString y = x) && glB sc x && plainName x && plainX z && mtE sc a z
  | .kin false y a, .Compare z [.In] [.Name x _] _ => FN.tab y && decide (Str.ofString y = x) && glB sc x && plainName x && mtE sc a z
  | .kin true y a, .Compare z [.NotIn] [.Name x _] _ => FN.tab y && decide (Str.ofString y = x) && glB sc x && plainName x && mtE sc a z
  | .dct es, .Dict ks vs _ => decide (ks.length ≤ 15) && mtPs sc es ks vs
  | .mx a b, .Call (.Name x _) [y, z] [] _ => decide (x = "max") && glB sc x && plainX y && plainX z && mtE sc a y && mtE sc b z
  | .blt f a, .Call (.Name x _) [y] [] _ => decide (Str.ofString f.name = x) && glB sc x && plainX y && mtE sc a y
  | .isi a t, .Call (.Name x _) [y, .Name z _] [] _ => decide (x = "isinstance") && glB sc x && plainX y && mtE sc a y && decide (Str.ofString t.name = z) && glB sc z
  | .lc e tg it cond own, .ListComp y [⟨t, i, ifs, 0⟩] scope _ => mtI sc it t i && tg.within (own.map (·.2)) && L2.blkC N sc scope (own.map fun p => (Str.ofString p.1, p.2)) && tgB N scope tg t && mtC (relS scope sc) cond ifs && mtE (relS scope sc) e y && plainX i
  | .alloc a, x => allocX x && mtE sc a x
  | .fld c a f, .Attribute x y _ => FN.fa c f && decide (Str.ofString f = y) && recvX x && mtE sc a x
  | .meth o c m key .nil, .Call (.Attribute x y ap) [] [] p => FN.fm c m key && decide (Str.ofString m = y) && (ap.endLine == p.line) && recvX x && mtE sc o x
  | .meth o c m key es, .Call (.Attribute x y ap) (z :: zs) [] p => FN.fm c m key && decide (Str.ofString m = y) && (ap.endLine == p.line) && recvX x && decide (zs.length < 20) && mtE sc o x && mtEs sc es (z :: zs)
  | .make c .nil, .Call (.Name x _) [] [] _ => FN.mkr c && decide (Str.ofString c = x) && glB sc x && plainName x
  | .make c es, .Call (.Name x _) (z :: zs) [] _ => FN.mkr c && decide (Str.ofString c = x) && glB sc x && plainName x && mtEs sc es (z :: zs)
  | .never, x => plainTest x && !isComp x
  | _, _ => false
def mtEs (sc : Scope) : MEs → List Expr → Bool
  | .nil, [] => true
  | .cons e es, x :: xs => plainX x && mtE sc e x && mtEs sc es xs
  | _, _ => false
def mtPs (sc : Scope) : MEs → List (Option Expr) → List Expr → Bool
  | .nil, [], [] => true
  | .cons k (.cons v es), some x :: ks, y :: vs => plainX x && plainX y && mtE sc k x && mtE sc v y && mtPs sc es ks vs
  | _, _, _ => false
def mtO (sc : Scope) : MEs → Option Expr → Bool
  | .nil, none => true
  | .cons e .nil, some x => mtE sc e x
  | _, _ => false
def mtC (sc : Scope) : MEs → List Expr → Bool
  | .nil, [] => true
  | .cons e .nil, [x] => mtE sc e x
  | _, _ => false
def mtI (sc : Scope) : MI → Expr → Expr → Bool
  | .seq e, _, x => mtE sc e x
  | .range1 a, _, .Call (.Name f _) [x] [] _ => decide (f = "range") && glB sc f && plainX x && mtE sc a x
  | .range2 a b, _, .Call (.Name f _) [x, y] [] _ => decide (f = "range") && glB sc f && plainX x && plainX y && mtE sc a x && mtE sc b y
  | .zip a b, .Tuple _ _ _, .Call (.Name f _) [x, y] [] _ => decide (f = "zip") && glB sc f && plainX x && plainX y && mtE sc a x && mtE sc b y
  | _, _, _ => false
end
/-- name = value: a comprehension on the name's line -/
def setB (sc : Scope) (y : Str) (py : Pos) : Expr → Bool
  | .ListComp _ _ scope pos => celB sc y || loclB sc y && (py.line == pos.line) && !(scope.names.any fun (n, k) => n == y && (k == .local || k == .cell))
  | x => locB sc y && !isComp x
def foldX (ts : List Expr) : Expr → Bool
  | .Tuple vs _ _ => vs.all (foldedForSure 8) || !(ts.length == 2 || ts.length == 3)
  | _ => true
/-- names on one line that are stored from the right -/
def parB (sc : Scope) : List Nat → List Expr → List Expr → Bool
  | [i, j], [.Name x px, .Name y py], [u, v] => decide (N[i]? = some x) && decide (N[j]? = some y) && loclB sc x && loclB sc y && !(x == y) && !(i == j) && (py.line == px.line) && !([u, v].all (foldedForSure 8)) && !([u, v].all (constantsAlone 8)) && plainX u && plainX v
  | [i, j, k], [.Name x px, .Name y py, .Name z pz], [u, v, w] => decide (N[i]? = some x) && decide (N[j]? = some y) && decide (N[k]? = some z) && loclB sc x && loclB sc y && loclB sc z && !(x == y) && !(x == z) && !(y == z) && !(i == j) && !(i == k) && !(j == k) && (py.line == px.line) && (pz.line == px.line) && !([u, v, w].all (foldedForSure 8)) && !([u, v, w].all (constantsAlone 8)) && plainX u && plainX v && plainX w
  | _, _, _ => false
mutual
def mtS (sc : Scope) : MS → List Stmt → Option (List Stmt)
  | .freeze _, ss => some ss
  | .frzFld c _ f, ss => if FN.fa c f then some ss else none
  | .never, p => (match p with | _ :: r => some r | _ => none)
  | .setFld c o f e, p => (match p with
    | .Assign [.Attribute (.Name y _) z _] x _ :: r => if mtE FN N sc e x && !isComp x && FN.fa c f && slotB N sc o y && decide (Str.ofString f = z) then some r else none
    | _ => none)
  | .aug i op e, p => (match p with
    | .AugAssign (.Name y _) o x _ :: r => if mtE FN N sc e x && decide (N[i]? = some y) && locB sc y && visB sc y && plainName y && opB op o && augB op then some r else none
    | _ => none)
  | .augFld c o f op e, p => (match p with
    | .AugAssign (.Attribute (.Name y _) z _) o2 x _ :: r => if mtE FN N sc e x && FN.fa c f && slotB N sc o y && decide (Str.ofString f = z) && opB op o2 && augB op then some r else none
    | _ => none)
  | .pass, p => (match p with | .Pass _ :: r => some r | _ => none)
  | .cont, p => (match p with | .Continue _ :: r => some r | _ => none)
  | .brk, p => (match p with | .Break _ :: r => some r | _ => none)
  | .expr e, p => (match p with
    | .Expr x _ :: r => if mtE FN N sc e x && !isComp x then some r else none
    | _ => none)
  | .ret e, p => (match p with
    | .Return (some x) _ :: r => if mtE FN N sc e x then some r else none
    | _ => none)
  | .retN, p => (match p with | .Return none _ :: r => some r | _ => none)
  | .set i e, p => (match p with
    | .Assign [.Name y py] x _ :: r => if mtE FN N sc e x && decide (N[i]? = some y) && setB sc y py x then some r else none
    | _ => none)
  | .asg is e, p => (match p with
    | .Assign [.Tuple ts _ _] x _ :: r => if mtE FN N sc e x && slotsB N sc is ts && !isComp x && foldX ts x then some r else none
    | _ => none)
  | .par is es, p => (match p with
    | .Assign [.Tuple ts _ _] (.Tuple vs _ _) _ :: r => if mtEs FN N sc es vs && parB N sc is ts vs then some r else none
    | _ => none)
  | .iff c a b, p => (match p with
    | .If x p q _ :: r => if mtE FN N sc c x && mtSs sc a p && mtSs sc b q then some r else none
    | _ => none)
  | .for_ tg it body, p => (match p with
    | .For t i p [] _ :: r => if mtI FN N sc it t i && tgB N sc tg t && plainX i && mtSs sc body p then some r else none
    | _ => none)
  | .whil c body, p => (match p with
    | .While x p [] _ :: r => if mtE FN N sc c x && mtSs sc body p then some r else none
    | _ => none)
  | .setIdx a i e, p => (match p with
    | .Assign [.Subscript x y _] z _ :: r => if mtE FN N sc e z && mtE FN N sc a x && mtE FN N sc i y && plainX y && !isComp z then some r else none
    | _ => none)
  | .append a e, p => (match p with
    | .Expr (.Call (.Attribute x m ap) [y] [] q) _ :: r => if decide (m = "append") && mtE FN N sc a x && mtE FN N sc e y && plainX y && (ap.endLine == q.line) && recvX x then some r else none
    | _ => none)
  | .extend a e, p => (match p with
    | .Expr (.Call (.Attribute x m ap) [y] [] q) _ :: r => if decide (m = "extend") && mtE FN N sc a x && mtE FN N sc e y && plainX y && (ap.endLine == q.line) && recvX x then some r else none
    | _ => none)
def mtSs (sc : Scope) : MSs → List Stmt → Bool
  | .nil, [] => true
  | .cons s ss, p => (match mtS sc s p with
    | some r => mtSs sc ss r
    | none => false)
  | _, _ => false
end
end
end P3
set_option Elab.async false
set_option linter.all false
set_option maxRecDepth 100000
set_option maxHeartbeats 0
/-! P3X: what the head looks at; a text as a table -/
namespace P3
open PySem L2
def freeNames : List String := ["len", "tuple", "list", "int", "all", "any", "sum", "max", "isinstance", "range", "zip", "bool", "str", "sorted", "set"]
mutual
def valB (K : PySem.W.Frag) : Value → D → Bool
  | .none, .non => true
  | .bool c, .bl b => c == b
  | .int j _, .int i => decide (j = i)
  | .str y _, .str s => decide (y = Str.ofString s)
  | .ref a, .tup ds => (match K.lookup a with
    | some o => (match o.cls, o.data with
      | .type c, .seq its _ => decide (c = "tuple") && decide (its.size ≤ sizeLine) && valsB K its.toList ds
      | _, _ => false)
    | none => false)
  | _, _ => false
def valsB (K : PySem.W.Frag) : List Value → List D → Bool
  | [], [] => true
  | u :: us, d :: ds => valB K u d && valsB K us ds
  | _, _ => false
end
def conB (K : PySem.W.Frag) (x : String) (d : D) : Bool := match PySem.W.nsIn K mainGlobals (Str.ofString x) with
  | some (some u) => valB K u d
  | _ => false
/-- no list -/
def noLst (K : PySem.W.Frag) : Bool := K.all fun p => match p.2.cls with
  | .type c => !(c == "list")
  | _ => true
abbrev Ts : Type := List (String × List (String × D))
def tabVB (K : PySem.W.Frag) (p : String × List (String × D)) : Bool := p.2.all fun q => match PySem.W.nsIn K (He.ga K (Str.ofString p.1)) (Str.ofString q.1) with
  | some (some u) => valB K u q.2
  | _ => false
def extB (cs : List (String × D)) (ts : Ts) (K : PySem.W.Frag) : Bool := cs.all (fun p => conB K p.1 p.2) && ts.all (tabVB K)
/-! ### the Hook -/
abbrev AlX : Type := He.AlD × Bool × List (Option (List (Option (Str × Int))))
def obsX (fa : List He.Fa) (fn : List He.DefD) (cs : List (String × D)) (ts : Ts) (K : PySem.W.Frag) : AlX := (He.obsD fa fn K, extB cs ts K, ts.map fun p => He.dicW K (He.ga K (Str.ofString p.1)))
def valX (fn : List He.DefD) (ts : Ts) (w : World) : AlX := (He.valD fn, true, ts.map fun p => some (He.keysIn w.params (p.2.map fun q => Str.ofString q.1)))
def SaysX (fa : List He.Fa) (fn : List He.DefD) (cs : List (String × D)) (ts : Ts) (w : World) (K : PySem.W.Frag) : Prop := obsX fa fn cs ts K = valX fn ts w
/-- the lists away: they are the run's own -/
def noL (g : Addr → Option Obj) : Addr → Option Obj := fun a => match g a with
  | some o => (match o.cls with
    | .type c => if c == "list" then none else some o
    | _ => some o)
  | none => none
theorem noL_at {g : Addr → Option Obj} {a : Addr} {o : Obj} (h : noL g a = some o) : g a = some o := by
  unfold noL at h
  split at h
  · rename_i o' e
    split at h
    · split at h
      · cases h
      · cases h; exact e
    · cases h; exact e
  · cases h
theorem noLst_fr {g : Addr → Option Obj} : ∀ {as : List Addr}, noLst (He.frG (noL g) as) = true
  | [] => rfl
  | a :: r => by
    have ih := noLst_fr (g := g) (as := r)
    unfold He.frG at ih ⊢
    rw [List.filterMap_cons]
    cases e : noL g a with
    | none => simpa using ih
    | some o =>
      simp only [Option.map_some]
      unfold noLst at ih ⊢
      rw [List.all_cons, ih, Bool.and_true]
      unfold noL at e
      split at e
      · rename_i o' e'
        split at e
        · rename_i c hc
          split at e
          · cases e
          · rename_i hne
            cases e
            simp only [hc]
            simpa using hne
        · rename_i hc
          cases e
          split
          · rename_i c hc'
            exact absurd hc' (hc c)
          · rfl
      · cases e
/-- what these objects name; of the dicts and rows among them alone; of the functions alone -/
def namedBy (g : Addr → Option Obj) (as : List Addr) : List Addr := as.flatMap fun a => match g a with
  | some o => He.refsD o
  | none => []
def namedIn (g : Addr → Option Obj) (as : List Addr) : List Addr := as.flatMap fun a => match g a with
  | some o => (match o.data with
    | .dict _ _ => He.refsD o
    | .seq _ _ => He.refsD o
    | _ => [])
  | none => []
def namedFn (g : Addr → Option Obj) (as : List Addr) : List Addr := as.flatMap fun a => match g a with
  | some o => (match o.data with
    | .func _ => He.refsD o
    | _ => [])
  | none => []
/-- what is looked at: the globals, their values, what those name, what stands in dicts and rows there, the code of functions there (no place is sought twice in vain: the list may name a place more than once) -/
def asX (g : Addr → Option Obj) (_n : Nat) : List Addr :=
  let l1 := namedBy g [mainGlobals]
  let l2 := namedBy g l1
  let l3 := namedIn g l2
  mainGlobals :: (l1 ++ (l2 ++ (l3 ++ namedFn g l3)))
def obsXG (n : Nat) (fa : List He.Fa) (fn : List He.DefD) (cs : List (String × D)) (ts : Ts) (g : Addr → Option Obj) : AlX := obsX fa fn cs ts (He.frG (noL g) (asX g n))
def hookX (n : Nat) (fa : List He.Fa) (fn : List He.DefD) (cs : List (String × D)) (ts : Ts) : PySem.W.Hook where
  α := AlX
  obs := fun s => obsXG n fa fn cs ts s.heap.get?
  val := fun w => valX fn ts w
  says := fun w h => ∃ K : PySem.W.Frag, K.In h ∧ noLst K = true ∧ SaysX fa fn cs ts w K
  of := fun _ _ e => ⟨_, fun _ _ h => noL_at (He.frG_at _ h), noLst_fr, e⟩
  keeps := fun _ _ _ ⟨K, hK, n, c⟩ k => ⟨K, PySem.W.Frag.In.keeps hK k, n, c⟩
theorem obsXG_eq {n : Nat} {fa : List He.Fa} {fn : List He.DefD} {cs : List (String × D)} {ts : Ts} {g : Addr → Option Obj} {s : Shared} (h : ∀ a, g a = s.heap.get? a) : obsXG n fa fn cs ts g = (hookX n fa fn cs ts).obs s := by
  have e : g = s.heap.get? := funext h
  rw [e] <;> rfl
/-! ### the text as a table -/
def clsBody : Stmt → List Stmt
  | .ClassDef _ _ _ b _ _ _ _ _ _ _ => b
  | _ => []
/-- one def: where it stands (a method: where within its class), its key, the module's name for it (for its class), the method's name, its own name, its qualified name -/
structure DT where
  i : Nat
  k : Option Nat := none
  f : String
  x : String
  m : Option String := none
  nm : String
  qn : String
  fn : Fn
/-- what of classes the text may name: class and field, class and maker -/
structure CT where
  flds : List (String × String) := []
  makes : List (String × String) := []
  tabs : Ts := []
section
variable (tp : Nat → Stmt)
def DT.st (e : DT) : Stmt := match e.k with
  | none => tp e.i
  | some k => (clsBody (tp e.i)).getD k (.Pass ⟨0, 0, 0, 0⟩)
def DT.at_ (e : DT) : Str × Option Str := (Str.ofString e.x, e.m.map Str.ofString)
def DT.def_ (e : DT) : He.DefD := ⟨e.at_, Str.ofString e.nm, Str.ofString e.qn, defArgs (e.st tp), defBody (e.st tp), defScope (e.st tp), [], []⟩
def DT.N (e : DT) : List Str := e.fn.names.map Str.ofString
def DT.ps (e : DT) : List Str := e.N.take e.fn.params
def scopeB (N P : List Str) (sc : Scope) : Bool := (match sc.kind with | .function => true | _ => false) && !sc.isCoroutine && !sc.isGenerator && decide N.Nodup && decide (N.take P.length = P) && P.all (locB sc) && sc.names.all fun y => match y.2 with
  | .free => false
  | _ => true
theorem scopeB_ok {N P : List Str} {sc : Scope} (h : scopeB N P sc = true) : FnScope N P sc := by
  unfold scopeB at h
  simp only [Bool.and_eq_true, Bool.not_eq_true', decide_eq_true_eq, List.all_eq_true] at h
  obtain ⟨⟨⟨⟨⟨⟨h1, h2⟩, h3⟩, h4⟩, h5⟩, h6⟩, h7⟩ := h
  refine ⟨?_, h2, h3, h4, h5, fun x hx => ?_, fun y hy z => ?_⟩
  · split at h1
    · assumption
    · cases h1
  · have := h6 x hx
    unfold locB at this
    split at this
    · rename_i e; exact .inl e
    · rename_i e; exact .inr e
    · cases this
  · have := h7 y hy
    rw [z] at this
    cases this
def DT.okB (FN : Tb) (e : DT) : Bool := scopeB e.N e.ps (defScope (e.st tp)) && decide (e.fn.params ≤ e.fn.names.length) && mtSs FN e.N (defScope (e.st tp)) e.fn.body (defBody (e.st tp))
def DT.bind (e : DT) : Prop := ∀ (kV doc pm : Value) (an : Option Addr) (cdv ct : Value) (us : List Value), us.length = e.ps.length →
  bindArgs (PySem.W.fnOf (Str.ofString e.nm) (Str.ofString e.qn) (defArgs (e.st tp)) (defBody (e.st tp)) (defScope (e.st tp)) .none kV doc pm an cdv ct) ⟨us, []⟩ = pure (e.ps.zip us)
def bindAll : List DT → Prop
  | [] => True
  | e :: es => e.bind tp ∧ bindAll es
theorem bindAll_at : ∀ {es : List DT}, bindAll tp es → ∀ e ∈ es, e.bind tp
  | [], _, e, h => by cases h
  | _ :: es, h, e, he => by
    rcases List.mem_cons.mp he with rfl | he
    · exact h.1
    · exact bindAll_at h.2 e he
def DT.isFn (e : DT) : Bool := e.m.isNone && decide (e.f = e.x)
def tG (tbl : List DT) (cs : List (String × D)) (ct : CT := {}) : GE where
  fns := tbl.map fun e => (e.f, e.fn)
  consts := ⟨cs, ct.tabs⟩
  globs := (tbl.filter DT.isFn).map (·.f)
  flds := ct.flds
  meths := tbl.filterMap fun e => e.m.map fun m => (e.x, m, e.f)
  makes := ct.makes
def tFa (tbl : List DT) (ct : CT := {}) : List He.Fa := tbl.map (fun e => .glo (Str.ofString e.x)) ++ freeNames.map (fun b => .free (Str.ofString b)) ++ ct.flds.map (fun p => .cls (Str.ofString p.1)) ++ ct.flds.map (fun p => .noat (Str.ofString p.1) (Str.ofString p.2)) ++
  tbl.filterMap (fun e => e.m.map fun m => .cls (Str.ofString e.x)) ++ tbl.filterMap (fun e => e.m.map fun m => .meth (Str.ofString e.x) (Str.ofString m)) ++ ct.makes.map (fun p => .mkr (Str.ofString p.1)) ++ ct.tabs.map (fun p => .glo (Str.ofString p.1))
def tFn (tbl : List DT) : List He.DefD := tbl.map (DT.def_ tp)
/-- a maker's def is the class's __init__ -/
def mkB (tbl : List DT) (p : String × String) : Bool := ((tbl.map fun e => (e.f, e.fn)).lookup p.1).isNone && tbl.any fun e => decide (e.f = p.2) && decide (e.x = p.1) && decide (e.m = some "__init__")
def tOk (tbl : List DT) (cs : List (String × D)) (ct : CT := {}) : Bool := tbl.all (DT.okB tp (tG tbl cs ct).tb) && decide (tbl.map (·.f)).Nodup && ct.makes.all (mkB tbl)
end
end P3
set_option Elab.async false
set_option linter.all false
set_option maxRecDepth 100000
set_option maxHeartbeats 0
/-! P4F: texts of functions that several laws share (printed by conv.py) -/
namespace P3
def F_agree : Fn := ⟨2, ["one", "two", "a", "b"],
 (.cons (.iff (.or (.cmp .eq (.var 0) (.glob "ANY")) (.one (.cmp .eq (.var 1) (.glob "ANY")))) (.cons (.ret (.bl true))
 .nil) .nil)
 (.cons (.ret (.and (.cmp .eq (.idx (.var 0) (.int 0)) (.idx (.var 1) (.int 0))) (.one (.blt .all (.lc (.call "agree" (.cons (.var 2) (.cons (.var 3) .nil))) (.tup [2, 3]) (.zip (.slc (.var 0) (.cons (.int 1) .nil) .nil) (.slc (.var 1) (.cons (.int 1) .nil) .nil)) .nil [("a", 2), ("b", 3)])))))
 .nil))⟩
def F_is_less_typed : Fn := ⟨2, ["one", "two", "a", "b"],
 (.cons (.iff (.cmp .eq (.var 0) (.glob "ANY")) (.cons (.ret (.bl true))
 .nil) .nil)
 (.cons (.ret (.and (.cmp .eq (.idx (.var 0) (.int 0)) (.idx (.var 1) (.int 0))) (.one (.blt .all (.lc (.call "is_less_typed" (.cons (.var 2) (.cons (.var 3) .nil))) (.tup [2, 3]) (.zip (.slc (.var 0) (.cons (.int 1) .nil) .nil) (.slc (.var 1) (.cons (.int 1) .nil) .nil)) .nil [("a", 2), ("b", 3)])))))
 .nil))⟩
def F_meet : Fn := ⟨2, ["one", "two", "a", "b"],
 (.cons (.iff (.not (.call "agree" (.cons (.var 0) (.cons (.var 1) .nil)))) (.cons (.ret .non)
 .nil) .nil)
 (.cons (.iff (.cmp .eq (.var 0) (.glob "ANY")) (.cons (.ret (.var 1))
 .nil) .nil)
 (.cons (.iff (.cmp .eq (.var 1) (.glob "ANY")) (.cons (.ret (.var 0))
 .nil) .nil)
 (.cons (.ret (.bin .add (.slc (.var 0) .nil (.cons (.int 1) .nil)) (.blt .tuple (.lc (.call "meet" (.cons (.var 2) (.cons (.var 3) .nil))) (.tup [2, 3]) (.zip (.slc (.var 0) (.cons (.int 1) .nil) .nil) (.slc (.var 1) (.cons (.int 1) .nil) .nil)) .nil [("a", 2), ("b", 3)]))))
 .nil))))⟩
def F_shared : Fn := ⟨2, ["one", "two", "a", "b"],
 (.cons (.iff (.cmp .ne (.idx (.var 0) (.int 0)) (.idx (.var 1) (.int 0))) (.cons (.ret (.glob "ANY"))
 .nil) .nil)
 (.cons (.ret (.bin .add (.slc (.var 0) .nil (.cons (.int 1) .nil)) (.blt .tuple (.lc (.call "shared" (.cons (.var 2) (.cons (.var 3) .nil))) (.tup [2, 3]) (.zip (.slc (.var 0) (.cons (.int 1) .nil) .nil) (.slc (.var 1) (.cons (.int 1) .nil) .nil)) .nil [("a", 2), ("b", 3)]))))
 .nil))⟩
def F__law_same : Fn := ⟨2, ["actual", "due", "k"],
 (.cons (.iff (.or (.isi (.var 1) .tuple) (.one (.isi (.var 1) .list))) (.cons (.iff (.or (.cmp .ne (.isi (.var 1) .tuple) (.isi (.var 0) .tuple)) (.or (.cmp .ne (.isi (.var 1) .list) (.isi (.var 0) .list)) (.one (.cmp .ne (.blt .len (.var 0)) (.blt .len (.var 1)))))) (.cons (.ret (.bl false))
 .nil) .nil)
 (.cons (.ret (.cmp .eq (.blt .len (.lc (.var 2) (.name 2) (.range1 (.blt .len (.var 1))) (.cons (.not (.call "_law_same" (.cons (.idx (.var 0) (.var 2)) (.cons (.idx (.var 1) (.var 2)) .nil)))) .nil) [("k", 2)])) (.int 0)))
 .nil)) .nil)
 (.cons (.iff (.cmp .is_ (.var 1) .non) (.cons (.ret (.cmp .is_ (.var 0) .non))
 .nil) .nil)
 (.cons (.iff (.or (.isi (.var 1) .bool) (.one (.isi (.var 0) .bool))) (.cons (.ret (.and (.isi (.var 1) .bool) (.and (.isi (.var 0) .bool) (.one (.cmp .eq (.var 0) (.var 1))))))
 .nil) .nil)
 (.cons (.iff (.isi (.var 1) .int) (.cons (.ret (.and (.isi (.var 0) .int) (.one (.cmp .eq (.var 0) (.var 1)))))
 .nil) .nil)
 (.cons (.ret (.and (.isi (.var 0) .str) (.and (.isi (.var 1) .str) (.one (.cmp .eq (.var 0) (.var 1))))))
 .nil)))))⟩
def F__law_pool : Fn := ⟨1, ["script", "salt", "cell"],
 (.cons (.set 1 (.int 7))
 (.cons (.for_ (.name 2) (.seq (.slc (.var 0) .nil (.cons (.int 63) .nil))) (.cons (.set 1 (.bin .mod (.blt .int (.bin .add (.bin .mul (.var 1) (.int 31)) (.var 2))) (.int 1000003)))
 .nil))
 (.cons (.ret (.lst (.cons (.blt .list (.var 0)) (.cons (.int 0) (.cons (.int 0) (.cons (.int 0) (.cons (.var 1) .nil)))))))
 .nil)))⟩
def F__law_spread : Fn := ⟨1, ["cell", "mixed", "total", "k"],
 (.cons (.set 1 (.bin .mod (.blt .int (.var 0)) (.int 2147483647)))
 (.cons (.set 2 (.int 1))
 (.cons (.for_ (.name 3) (.range1 (.int 4)) (.cons (.set 1 (.bin .mod (.blt .int (.bin .add (.bin .add (.bin .mul (.var 1) (.int 48271)) (.int 12345)) (.var 3))) (.int 2147483647)))
 (.cons (.set 2 (.bin .add (.bin .mul (.var 2) (.int 2147483647)) (.var 1)))
 .nil)))
 (.cons (.ret (.var 2))
 .nil))))⟩
def F__law_draw : Fn := ⟨2, ["pool", "many", "value", "cell", "mixed"],
 (.cons (.iff (.and (.cmp .le (.idx (.var 0) (.int 2)) (.int 0)) (.one (.cmp .lt (.idx (.var 0) (.int 1)) (.blt .len (.idx (.var 0) (.int 0)))))) (.cons (.set 3 (.idx (.idx (.var 0) (.int 0)) (.idx (.var 0) (.int 1))))
 (.cons (.setIdx (.var 0) (.int 1) (.bin .add (.idx (.var 0) (.int 1)) (.int 1)))
 (.cons (.setIdx (.var 0) (.int 2) (.var 3))
 (.cons (.iff (.cmp .lt (.var 3) (.int 1000000000000000000)) (.cons (.setIdx (.var 0) (.int 2) (.call "_law_spread" (.cons (.var 3) .nil)))
 .nil) .nil)
 .nil)))) .nil)
 (.cons (.setIdx (.var 0) (.int 3) (.bin .add (.idx (.var 0) (.int 3)) (.int 1)))
 (.cons (.iff (.cmp .le (.idx (.var 0) (.int 2)) (.int 0)) (.cons (.set 4 (.bin .mod (.blt .int (.bin .add (.bin .add (.bin .mul (.idx (.var 0) (.int 4)) (.int 48271)) (.bin .mul (.idx (.var 0) (.int 3)) (.int 69621))) (.int 1))) (.int 2147483647)))
 (.cons (.set 4 (.bin .mod (.blt .int (.bin .add (.bin .mul (.var 4) (.int 16807)) (.idx (.var 0) (.int 3)))) (.int 2147483629)))
 (.cons (.ret (.bin .mod (.bin .fdiv (.var 4) (.int 5)) (.var 1)))
 .nil))) .nil)
 (.cons (.set 2 (.bin .mod (.blt .int (.idx (.var 0) (.int 2))) (.var 1)))
 (.cons (.setIdx (.var 0) (.int 2) (.bin .fdiv (.idx (.var 0) (.int 2)) (.var 1)))
 (.cons (.ret (.var 2))
 .nil))))))⟩
def F__law_pick : Fn := ⟨2, ["pool", "items"],
 (.cons (.ret (.idx (.var 1) (.call "_law_draw" (.cons (.var 0) (.cons (.blt .len (.var 1)) .nil)))))
 .nil)⟩
def F__law_kind : Fn := ⟨2, ["pool", "deep"],
 (.cons (.iff (.or (.cmp .eq (.var 1) (.int 0)) (.one (.cmp .lt (.call "_law_draw" (.cons (.var 0) (.cons (.int 9) .nil))) (.int 4)))) (.cons (.ret (.tup (.cons (.call "_law_pick" (.cons (.var 0) (.cons (.lst (.cons (.str "int") (.cons (.str "int") (.cons (.str "bool") (.cons (.str "any") .nil))))) .nil))) .nil)))
 .nil) .nil)
 (.cons (.ret (.tup (.cons (.call "_law_pick" (.cons (.var 0) (.cons (.lst (.cons (.str "fun") (.cons (.str "fun") (.cons (.str "pair") .nil)))) .nil))) (.cons (.call "_law_kind" (.cons (.var 0) (.cons (.bin .sub (.var 1) (.int 1)) .nil))) (.cons (.call "_law_kind" (.cons (.var 0) (.cons (.bin .sub (.var 1) (.int 1)) .nil))) .nil)))))
 .nil))⟩
def F__law_loose : Fn := ⟨2, ["pool", "kind", "part"],
 (.cons (.iff (.cmp .eq (.call "_law_draw" (.cons (.var 0) (.cons (.int 4) .nil))) (.int 0)) (.cons (.ret (.tup (.cons (.str "any") .nil)))
 .nil) .nil)
 (.cons (.ret (.bin .add (.slc (.var 1) .nil (.cons (.int 1) .nil)) (.blt .tuple (.lc (.call "_law_loose" (.cons (.var 0) (.cons (.var 2) .nil))) (.name 2) (.seq (.slc (.var 1) (.cons (.int 1) .nil) .nil)) .nil [("part", 2)]))))
 .nil))⟩
def F__law_meet : Fn := ⟨2, ["one", "two"],
 (.cons (.ret (.ife (.or (.cmp .is_ (.var 0) .non) (.one (.cmp .is_ (.var 1) .non))) .non (.call "meet" (.cons (.var 0) (.cons (.var 1) .nil)))))
 .nil)⟩
end P3
set_option Elab.async false
set_option linter.all false
set_option maxRecDepth 100000
set_option maxHeartbeats 0
/-! P5F: texts of functions over coercions that several laws share (printed by conv.py) -/
namespace P3
def F_is_integer : Fn := ⟨1, ["value"],
 (.cons (.ret (.and (.isi (.var 0) .int) (.one (.not (.isi (.var 0) .bool)))))
 .nil)⟩
def F_is_from : Fn := ⟨3, ["value", "low", "high"],
 (.cons (.ret (.and (.call "is_integer" (.cons (.var 0) .nil)) (.one (.chain .le .le (.var 1) (.var 0) (.var 2)))))
 .nil)⟩
def F_ground : Fn := ⟨1, ["kind"],
 (.cons (.iff (.cmp .eq (.var 0) (.glob "ANY")) (.cons (.ret .non)
 .nil) .nil)
 (.cons (.ret (.bin .add (.slc (.var 0) .nil (.cons (.int 1) .nil)) (.bin .mul (.tup (.cons (.glob "ANY") .nil)) (.bin .sub (.blt .len (.var 0)) (.int 1)))))
 .nil))⟩
def F_identity : Fn := ⟨1, ["kind", "part"],
 (.cons (.iff (.cmp .eq (.var 0) (.glob "ANY")) (.cons (.ret (.glob "STAY"))
 .nil) .nil)
 (.cons (.ret (.ife (.cmp .eq (.blt .len (.var 0)) (.int 1)) (.glob "SAME") (.bin .add (.slc (.var 0) .nil (.cons (.int 1) .nil)) (.blt .tuple (.lc (.call "identity" (.cons (.var 1) .nil)) (.name 1) (.seq (.slc (.var 0) (.cons (.int 1) .nil) .nil)) .nil [("part", 1)])))))
 .nil))⟩
def F_coercion_of : Fn := ⟨4, ["one", "two", "label", "side", "k"],
 (.cons (.iff (.and (.cmp .eq (.var 0) (.glob "ANY")) (.one (.cmp .eq (.var 1) (.glob "ANY")))) (.cons (.ret (.glob "STAY"))
 .nil) .nil)
 (.cons (.iff (.cmp .eq (.var 0) (.glob "ANY")) (.cons (.ret (.call "checked" (.cons (.var 2) (.cons (.var 3) (.cons (.idx (.var 1) (.int 0)) (.cons (.call "coercion_of" (.cons (.call "ground" (.cons (.var 1) .nil)) (.cons (.var 1) (.cons (.var 2) (.cons (.var 3) .nil))))) .nil))))))
 .nil) .nil)
 (.cons (.iff (.cmp .eq (.var 1) (.glob "ANY")) (.cons (.ret (.tup (.cons (.str "to") (.cons (.idx (.var 0) (.int 0)) (.cons (.call "coercion_of" (.cons (.var 0) (.cons (.call "ground" (.cons (.var 0) .nil)) (.cons (.var 2) (.cons (.var 3) .nil))))) .nil)))))
 .nil) .nil)
 (.cons (.iff (.cmp .eq (.idx (.var 0) (.int 0)) (.str "fun")) (.cons (.ret (.tup (.cons (.str "fun") (.cons (.call "coercion_of" (.cons (.idx (.var 1) (.int 1)) (.cons (.idx (.var 0) (.int 1)) (.cons (.var 2) (.cons (.bin .sub (.int 1) (.var 3)) .nil))))) (.cons (.call "coercion_of" (.cons (.idx (.var 0) (.int 2)) (.cons (.idx (.var 1) (.int 2)) (.cons (.var 2) (.cons (.var 3) .nil))))) .nil)))))
 .nil) .nil)
 (.cons (.iff (.cmp .eq (.idx (.var 0) (.int 0)) (.str "pair")) (.cons (.ret (.bin .add (.tup (.cons (.str "pair") .nil)) (.blt .tuple (.lc (.call "coercion_of" (.cons (.idx (.var 0) (.var 4)) (.cons (.idx (.var 1) (.var 4)) (.cons (.var 2) (.cons (.var 3) .nil))))) (.name 4) (.seq (.tup (.cons (.int 1) (.cons (.int 2) .nil)))) .nil [("k", 4)]))))
 .nil) .nil)
 (.cons (.ret (.glob "SAME"))
 .nil))))))⟩
def F_checked : Fn := ⟨4, ["label", "side", "tag", "rest"],
 (.cons (.ret (.ife (.cmp .eq (.var 3) (.tup (.cons (.str "fail") (.cons (.var 0) (.cons (.var 1) .nil))))) (.var 3) (.tup (.cons (.str "from") (.cons (.var 0) (.cons (.var 1) (.cons (.var 2) (.cons (.var 3) .nil))))))))
 .nil)⟩
def F_then : Fn := ⟨2, ["one", "two"],
 (.cons (.iff (.or (.cmp .eq (.var 0) (.glob "STAY")) (.one (.cmp .eq (.idx (.var 0) (.int 0)) (.str "fail")))) (.cons (.ret (.ife (.cmp .eq (.var 0) (.glob "STAY")) (.var 1) (.var 0)))
 .nil) .nil)
 (.cons (.iff (.cmp .eq (.idx (.var 0) (.int 0)) (.str "from")) (.cons (.ret (.call "checked" (.cons (.idx (.var 0) (.int 1)) (.cons (.idx (.var 0) (.int 2)) (.cons (.idx (.var 0) (.int 3)) (.cons (.call "then" (.cons (.idx (.var 0) (.int 4)) (.cons (.var 1) .nil))) .nil))))))
 .nil) .nil)
 (.cons (.iff (.cmp .eq (.idx (.var 1) (.int 0)) (.str "fail")) (.cons (.ret (.var 1))
 .nil) .nil)
 (.cons (.iff (.cmp .eq (.idx (.var 0) (.int 0)) (.str "to")) (.cons (.ret (.call "behind_tag" (.cons (.var 0) (.cons (.var 1) .nil))))
 .nil) .nil)
 (.cons (.iff (.cmp .eq (.idx (.var 1) (.int 0)) (.str "to")) (.cons (.ret (.tup (.cons (.str "to") (.cons (.idx (.var 1) (.int 1)) (.cons (.call "then" (.cons (.var 0) (.cons (.idx (.var 1) (.int 2)) .nil))) .nil)))))
 .nil) .nil)
 (.cons (.iff (.cmp .eq (.idx (.var 0) (.int 0)) (.str "fun")) (.cons (.ret (.tup (.cons (.str "fun") (.cons (.call "then" (.cons (.idx (.var 1) (.int 1)) (.cons (.idx (.var 0) (.int 1)) .nil))) (.cons (.call "then" (.cons (.idx (.var 0) (.int 2)) (.cons (.idx (.var 1) (.int 2)) .nil))) .nil)))))
 .nil) .nil)
 (.cons (.ret (.ife (.cmp .eq (.idx (.var 0) (.int 0)) (.str "same")) (.glob "SAME") (.tup (.cons (.str "pair") (.cons (.call "then" (.cons (.idx (.var 0) (.int 1)) (.cons (.idx (.var 1) (.int 1)) .nil))) (.cons (.call "then" (.cons (.idx (.var 0) (.int 2)) (.cons (.idx (.var 1) (.int 2)) .nil))) .nil))))))
 .nil)))))))⟩
def F_behind_tag : Fn := ⟨2, ["one", "two"],
 (.cons (.iff (.cmp .eq (.var 1) (.glob "STAY")) (.cons (.ret (.var 0))
 .nil) .nil)
 (.cons (.ret (.ife (.cmp .eq (.idx (.var 1) (.int 3)) (.idx (.var 0) (.int 1))) (.call "then" (.cons (.idx (.var 0) (.int 2)) (.cons (.idx (.var 1) (.int 4)) .nil))) (.bin .add (.tup (.cons (.str "fail") .nil)) (.slc (.var 1) (.cons (.int 1) .nil) (.cons (.int 3) .nil)))))
 .nil))⟩
def F_parts_of : Fn := ⟨1, ["coercion"],
 (.cons (.iff (.cmp .in_ (.idx (.var 0) (.int 0)) (.tup (.cons (.str "fun") (.cons (.str "pair") .nil)))) (.cons (.ret (.blt .list (.slc (.var 0) (.cons (.int 1) .nil) .nil)))
 .nil) .nil)
 (.cons (.ret (.ife (.cmp .in_ (.idx (.var 0) (.int 0)) (.tup (.cons (.str "to") (.cons (.str "from") .nil)))) (.lst (.cons (.idx (.var 0) (.neg 1)) .nil)) (.lst .nil)))
 .nil))⟩
def F_labels_in : Fn := ⟨1, ["coercion", "found", "part"],
 (.cons (.set 1 (.ife (.cmp .in_ (.idx (.var 0) (.int 0)) (.tup (.cons (.str "from") (.cons (.str "fail") .nil)))) (.lst (.cons (.slc (.var 0) (.cons (.int 1) .nil) (.cons (.int 3) .nil)) .nil)) (.lst .nil)))
 (.cons (.for_ (.name 2) (.seq (.call "parts_of" (.cons (.var 0) .nil))) (.cons (.extend (.var 1) (.call "labels_in" (.cons (.var 2) .nil)))
 .nil))
 (.cons (.ret (.blt .tuple (.sset (.var 1))))
 .nil)))⟩
def F_is_label : Fn := ⟨2, ["label", "side"],
 (.cons (.ret (.and (.call "is_from" (.cons (.var 0) (.cons (.int 0) (.cons (.bin .sub (.glob "LARGEST") (.int 1)) .nil)))) (.one (.call "is_from" (.cons (.var 1) (.cons (.int 0) (.cons (.int 1) .nil)))))))
 .nil)⟩
def F_is_coercion : Fn := ⟨3, ["value", "one", "two", "word", "many"],
 (.cons (.iff (.or (.not (.isi (.var 0) .tuple)) (.or (.cmp .eq (.blt .len (.var 0)) (.int 0)) (.one (.not (.isi (.idx (.var 0) (.int 0)) .str))))) (.cons (.ret (.bl false))
 .nil) .nil)
 (.cons (.par [3, 4] (.cons (.idx (.var 0) (.int 0)) (.cons (.blt .len (.var 0)) .nil)))
 (.cons (.iff (.cmp .eq (.var 3) (.str "fail")) (.cons (.ret (.and (.cmp .eq (.var 4) (.int 3)) (.one (.call "is_label" (.cons (.idx (.var 0) (.int 1)) (.cons (.idx (.var 0) (.int 2)) .nil))))))
 .nil) .nil)
 (.cons (.iff (.cmp .eq (.var 3) (.str "stay")) (.cons (.ret (.and (.cmp .eq (.var 4) (.int 1)) (.and (.cmp .eq (.var 1) (.glob "ANY")) (.one (.cmp .eq (.var 2) (.glob "ANY"))))))
 .nil) .nil)
 (.cons (.iff (.cmp .eq (.var 3) (.str "from")) (.cons (.ret (.and (.cmp .eq (.var 1) (.glob "ANY")) (.and (.cmp .eq (.var 4) (.int 5)) (.one (.call "is_check" (.cons (.var 0) (.cons (.var 2) .nil)))))))
 .nil) .nil)
 (.cons (.iff (.cmp .eq (.var 3) (.str "to")) (.cons (.ret (.and (.cmp .eq (.var 2) (.glob "ANY")) (.and (.cmp .eq (.var 4) (.int 3)) (.one (.call "is_tagging" (.cons (.var 0) (.cons (.var 1) .nil)))))))
 .nil) .nil)
 (.cons (.ret (.and (.cmp .in_ (.var 3) (.glob "HEADS")) (.one (.call "is_head" (.cons (.var 0) (.cons (.var 1) (.cons (.var 2) .nil)))))))
 .nil)))))))⟩
def F_is_check : Fn := ⟨2, ["value", "two", "first", "rest"],
 (.cons (.iff (.or (.not (.call "is_label" (.cons (.idx (.var 0) (.int 1)) (.cons (.idx (.var 0) (.int 2)) .nil)))) (.or (.not (.isi (.idx (.var 0) (.int 3)) .str)) (.one (.cmp .nin (.idx (.var 0) (.int 3)) (.glob "TAGS"))))) (.cons (.ret (.bl false))
 .nil) .nil)
 (.cons (.set 2 (.bin .add (.tup (.cons (.idx (.var 0) (.int 3)) .nil)) (.bin .mul (.tup (.cons (.glob "ANY") .nil)) (.ife (.cmp .in_ (.idx (.var 0) (.int 3)) (.tup (.cons (.str "fun") (.cons (.str "pair") .nil)))) (.int 2) (.int 0)))))
 (.cons (.set 3 (.idx (.var 0) (.int 4)))
 (.cons (.iff (.or (.not (.call "is_coercion" (.cons (.var 3) (.cons (.var 2) (.cons (.var 1) .nil))))) (.one (.cmp .in_ (.idx (.var 3) (.int 0)) (.tup (.cons (.str "stay") (.cons (.str "from") .nil)))))) (.cons (.ret (.bl false))
 .nil) .nil)
 (.cons (.ret (.or (.cmp .ne (.idx (.var 3) (.int 0)) (.str "fail")) (.one (.cmp .ne (.slc (.var 3) (.cons (.int 1) .nil) .nil) (.slc (.var 0) (.cons (.int 1) .nil) (.cons (.int 3) .nil))))))
 .nil)))))⟩
def F_is_tagging : Fn := ⟨2, ["value", "one"],
 (.cons (.iff (.or (.cmp .eq (.var 1) (.glob "ANY")) (.or (.not (.isi (.idx (.var 0) (.int 1)) .str)) (.one (.cmp .ne (.idx (.var 0) (.int 1)) (.idx (.var 1) (.int 0)))))) (.cons (.ret (.bl false))
 .nil) .nil)
 (.cons (.ret (.and (.call "is_coercion" (.cons (.idx (.var 0) (.int 2)) (.cons (.var 1) (.cons (.call "ground" (.cons (.var 1) .nil)) .nil)))) (.one (.cmp .in_ (.idx (.idx (.var 0) (.int 2)) (.int 0)) (.glob "HEADS")))))
 .nil))⟩
def F_is_head : Fn := ⟨3, ["value", "one", "two"],
 (.cons (.iff (.cmp .eq (.idx (.var 0) (.int 0)) (.str "same")) (.cons (.ret (.and (.cmp .eq (.blt .len (.var 0)) (.int 1)) (.and (.cmp .eq (.var 1) (.var 2)) (.one (.cmp .in_ (.idx (.var 1) (.int 0)) (.tup (.cons (.str "int") (.cons (.str "bool") .nil))))))))
 .nil) .nil)
 (.cons (.iff (.or (.cmp .ne (.blt .len (.var 0)) (.int 3)) (.or (.cmp .ne (.idx (.var 1) (.int 0)) (.idx (.var 0) (.int 0))) (.one (.cmp .ne (.idx (.var 2) (.int 0)) (.idx (.var 0) (.int 0)))))) (.cons (.ret (.bl false))
 .nil) .nil)
 (.cons (.iff (.cmp .eq (.idx (.var 0) (.int 0)) (.str "fun")) (.cons (.ret (.and (.call "is_coercion" (.cons (.idx (.var 0) (.int 1)) (.cons (.idx (.var 2) (.int 1)) (.cons (.idx (.var 1) (.int 1)) .nil)))) (.one (.call "is_coercion" (.cons (.idx (.var 0) (.int 2)) (.cons (.idx (.var 1) (.int 2)) (.cons (.idx (.var 2) (.int 2)) .nil)))))))
 .nil) .nil)
 (.cons (.ret (.and (.call "is_coercion" (.cons (.idx (.var 0) (.int 1)) (.cons (.idx (.var 1) (.int 1)) (.cons (.idx (.var 2) (.int 1)) .nil)))) (.one (.call "is_coercion" (.cons (.idx (.var 0) (.int 2)) (.cons (.idx (.var 1) (.int 2)) (.cons (.idx (.var 2) (.int 2)) .nil)))))))
 .nil))))⟩
def F__law_top : Fn := ⟨1, ["kind", "part"],
 (.cons (.ret (.bin .add (.slc (.var 0) .nil (.cons (.int 1) .nil)) (.blt .tuple (.lc (.tup (.cons (.str "any") .nil)) (.name 1) (.seq (.slc (.var 0) (.cons (.int 1) .nil) .nil)) .nil [("part", 1)]))))
 .nil)⟩
def F__law_use_safe : Fn := ⟨2, ["one", "two", "k"],
 (.cons (.iff (.cmp .eq (.var 0) (.tup (.cons (.str "any") .nil))) (.cons (.ret (.bl true))
 .nil) .nil)
 (.cons (.iff (.cmp .eq (.var 1) (.tup (.cons (.str "any") .nil))) (.cons (.ret (.call "_law_use_safe" (.cons (.var 0) (.cons (.call "_law_top" (.cons (.var 0) .nil)) .nil))))
 .nil) .nil)
 (.cons (.iff (.cmp .ne (.idx (.var 0) (.int 0)) (.idx (.var 1) (.int 0))) (.cons (.ret (.bl false))
 .nil) .nil)
 (.cons (.iff (.cmp .eq (.idx (.var 0) (.int 0)) (.str "fun")) (.cons (.ret (.and (.call "_law_value_safe" (.cons (.idx (.var 1) (.int 1)) (.cons (.idx (.var 0) (.int 1)) .nil))) (.one (.call "_law_use_safe" (.cons (.idx (.var 0) (.int 2)) (.cons (.idx (.var 1) (.int 2)) .nil))))))
 .nil) .nil)
 (.cons (.ret (.cmp .eq (.blt .len (.lc (.var 2) (.name 2) (.range2 (.int 1) (.blt .len (.var 0))) (.cons (.not (.call "_law_use_safe" (.cons (.idx (.var 0) (.var 2)) (.cons (.idx (.var 1) (.var 2)) .nil)))) .nil) [("k", 2)])) (.int 0)))
 .nil)))))⟩
def F__law_value_safe : Fn := ⟨2, ["one", "two", "k"],
 (.cons (.iff (.cmp .eq (.var 1) (.tup (.cons (.str "any") .nil))) (.cons (.ret (.bl true))
 .nil) .nil)
 (.cons (.iff (.cmp .ne (.idx (.var 0) (.int 0)) (.idx (.var 1) (.int 0))) (.cons (.ret (.bl false))
 .nil) .nil)
 (.cons (.iff (.cmp .eq (.idx (.var 0) (.int 0)) (.str "fun")) (.cons (.ret (.and (.call "_law_use_safe" (.cons (.idx (.var 1) (.int 1)) (.cons (.idx (.var 0) (.int 1)) .nil))) (.one (.call "_law_value_safe" (.cons (.idx (.var 0) (.int 2)) (.cons (.idx (.var 1) (.int 2)) .nil))))))
 .nil) .nil)
 (.cons (.ret (.cmp .eq (.blt .len (.lc (.var 2) (.name 2) (.range2 (.int 1) (.blt .len (.var 0))) (.cons (.not (.call "_law_value_safe" (.cons (.idx (.var 0) (.var 2)) (.cons (.idx (.var 1) (.var 2)) .nil)))) .nil) [("k", 2)])) (.int 0)))
 .nil))))⟩
end P3
set_option Elab.async false
set_option linter.all false
set_option maxRecDepth 100000
set_option maxHeartbeats 0
/-! P6F: texts of functions over live labels, drifted kinds (printed by conv.py) -/
namespace P3
def F_passes : Fn := ⟨1, ["coercion"],
 (.cons (.ret (.and (.cmp .ne (.idx (.var 0) (.int 0)) (.str "fail")) (.one (.or (.cmp .ne (.idx (.var 0) (.int 0)) (.str "from")) (.one (.cmp .ne (.idx (.idx (.var 0) (.int 4)) (.int 0)) (.str "fail")))))))
 .nil)⟩
def F_live_labels : Fn := ⟨1, ["coercion", "found", "part"],
 (.cons (.set 1 (.ife (.cmp .in_ (.idx (.var 0) (.int 0)) (.tup (.cons (.str "from") (.cons (.str "fail") .nil)))) (.lst (.cons (.slc (.var 0) (.cons (.int 1) .nil) (.cons (.int 3) .nil)) .nil)) (.lst .nil)))
 (.cons (.for_ (.name 2) (.seq (.call "parts_of" (.cons (.var 0) .nil))) (.cons (.iff (.or (.cmp .ne (.idx (.var 0) (.int 0)) (.str "fun")) (.or (.cmp .eq (.var 2) (.idx (.var 0) (.int 1))) (.one (.call "passes" (.cons (.idx (.var 0) (.int 1)) .nil))))) (.cons (.extend (.var 1) (.call "live_labels" (.cons (.var 2) .nil)))
 .nil) .nil)
 .nil))
 (.cons (.ret (.blt .tuple (.sset (.var 1))))
 .nil)))⟩
def F__law_drift : Fn := ⟨3, ["pool", "kind", "deep", "part"],
 (.cons (.iff (.cmp .eq (.var 1) (.tup (.cons (.str "any") .nil))) (.cons (.ret (.ife (.cmp .gt (.call "_law_draw" (.cons (.var 0) (.cons (.int 3) .nil))) (.int 0)) (.call "_law_kind" (.cons (.var 0) (.cons (.var 2) .nil))) (.var 1)))
 .nil) .nil)
 (.cons (.iff (.cmp .eq (.call "_law_draw" (.cons (.var 0) (.cons (.int 4) .nil))) (.int 0)) (.cons (.ret (.tup (.cons (.str "any") .nil)))
 .nil) .nil)
 (.cons (.ret (.bin .add (.slc (.var 1) .nil (.cons (.int 1) .nil)) (.blt .tuple (.lc (.call "_law_drift" (.cons (.var 0) (.cons (.var 3) (.cons (.mx (.int 0) (.bin .sub (.var 2) (.int 1))) .nil)))) (.name 3) (.seq (.slc (.var 1) (.cons (.int 1) .nil) .nil)) .nil [("part", 3)]))))
 .nil)))⟩
def F__law_simple : Fn := ⟨2, ["pool", "kind", "part"],
 (.cons (.iff (.or (.cmp .eq (.var 1) (.tup (.cons (.str "any") .nil))) (.one (.cmp .eq (.call "_law_draw" (.cons (.var 0) (.cons (.int 4) .nil))) (.int 0)))) (.cons (.ret (.tup (.cons (.str "any") .nil)))
 .nil) .nil)
 (.cons (.ret (.bin .add (.slc (.var 1) .nil (.cons (.int 1) .nil)) (.blt .tuple (.lc (.call "_law_simple" (.cons (.var 0) (.cons (.var 2) .nil))) (.name 2) (.seq (.slc (.var 1) (.cons (.int 1) .nil) .nil)) .nil [("part", 2)]))))
 .nil))⟩
def F__law_told_by_both : Fn := ⟨2, ["one", "two", "k"],
 (.cons (.iff (.cmp .ne (.idx (.var 0) (.int 0)) (.idx (.var 1) (.int 0))) (.cons (.ret (.tup (.cons (.str "any") .nil)))
 .nil) .nil)
 (.cons (.ret (.bin .add (.slc (.var 0) .nil (.cons (.int 1) .nil)) (.blt .tuple (.lc (.call "_law_told_by_both" (.cons (.idx (.var 0) (.var 2)) (.cons (.idx (.var 1) (.var 2)) .nil))) (.name 2) (.range2 (.int 1) (.blt .len (.var 0))) .nil [("k", 2)]))))
 .nil))⟩
end P3
set_option Elab.async false
set_option linter.all false
set_option maxRecDepth 100000
set_option maxHeartbeats 0
/-! P8F: texts of functions over trials, rows of casts (printed by conv.py) -/
namespace P3
open PySem L2
def F_Trials___init__ : Fn := ⟨2, ["self", "label"],
 (.cons (.setFld "Trials" 0 "label" (.var 1))
 .nil)⟩
def F_Trials_cast : Fn := ⟨4, ["self", "one", "two", "core"],
 (.cons (.ret (.ife (.cmp .eq (.var 1) (.var 2)) (.var 3) (.tup (.cons (.str "cast") (.cons (.fld "Trials" (.var 0) "label") (.cons (.var 1) (.cons (.var 2) (.cons (.var 3) .nil))))))))
 .nil)⟩
def F_Trials_some : Fn := ⟨2, ["self", "kind"],
 (.cons (.iff (.cmp .eq (.var 1) (.glob "ANY")) (.cons (.ret (.meth (.var 0) "Trials" "cast" "Trials.cast" (.cons (.glob "INT") (.cons (.glob "ANY") (.cons (.glob "NOUGHT") .nil)))))
 .nil) .nil)
 (.cons (.iff (.cmp .eq (.idx (.var 1) (.int 0)) (.str "fun")) (.cons (.ret (.tup (.cons (.str "fn") (.cons (.glob "NAME") (.cons (.idx (.var 1) (.int 1)) (.cons (.meth (.var 0) "Trials" "some" "Trials.some" (.cons (.idx (.var 1) (.int 2)) .nil)) .nil))))))
 .nil) .nil)
 (.cons (.iff (.cmp .eq (.idx (.var 1) (.int 0)) (.str "pair")) (.cons (.ret (.tup (.cons (.str "pair") (.cons (.meth (.var 0) "Trials" "some" "Trials.some" (.cons (.idx (.var 1) (.int 1)) .nil)) (.cons (.meth (.var 0) "Trials" "some" "Trials.some" (.cons (.idx (.var 1) (.int 2)) .nil)) .nil)))))
 .nil) .nil)
 (.cons (.ret (.ife (.cmp .eq (.var 1) (.glob "INT")) (.glob "NOUGHT") (.tup (.cons (.str "truth") (.cons (.int 0) .nil)))))
 .nil))))⟩
def F_Trials_under : Fn := ⟨3, ["self", "head", "core"],
 (.cons (.ret (.meth (.var 0) "Trials" "cast" "Trials.cast" (.cons (.var 1) (.cons (.glob "ANY") (.cons (.var 2) .nil)))))
 .nil)⟩
def F_Trials_other : Fn := ⟨2, ["self", "heads", "head"],
 (.cons (.ret (.meth (.var 0) "Trials" "some_under" "Trials.some_under" (.cons (.idx (.lc (.var 2) (.name 2) (.seq (.glob "HEADS")) (.cons (.cmp .nin (.idx (.var 2) (.int 0)) (.var 1)) .nil) [("head", 2)]) (.int 0)) .nil)))
 .nil)⟩
def F_Trials_some_under : Fn := ⟨2, ["self", "head"],
 (.cons (.ret (.meth (.var 0) "Trials" "under" "Trials.under" (.cons (.var 1) (.cons (.meth (.var 0) "Trials" "some" "Trials.some" (.cons (.var 1) .nil)) .nil))))
 .nil)⟩
def F_Trials_passing : Fn := ⟨3, ["self", "coercion", "kind"],
 (.cons (.ret (.ife (.cmp .eq (.idx (.var 1) (.int 0)) (.str "from")) (.meth (.var 0) "Trials" "some_under" "Trials.some_under" (.cons (.call "head_of" (.cons (.idx (.var 1) (.int 3)) .nil)) .nil)) (.meth (.var 0) "Trials" "some" "Trials.some" (.cons (.var 2) .nil))))
 .nil)⟩
def F_Trials_led : Fn := ⟨4, ["self", "kind", "core", "use"],
 (.cons (.ret (.tup (.cons (.str "let") (.cons (.glob "NAME") (.cons (.var 1) (.cons (.var 2) (.cons (.var 3) .nil)))))))
 .nil)⟩
def F_Trials_in_argument : Fn := ⟨4, ["self", "one", "two", "trial", "give", "use", "told", "body"],
 (.cons (.asg [4, 5] (.var 3))
 (.cons (.set 6 (.tup (.cons (.str "let") (.cons (.str "told") (.cons (.glob "INT") (.cons (.tup (.cons (.str "tell") (.cons (.tup (.cons (.str "number") (.cons (.int 7) .nil))) .nil))) (.cons (.meth (.var 0) "Trials" "some" "Trials.some" (.cons (.idx (.var 1) (.int 2)) .nil)) .nil)))))))
 (.cons (.set 7 (.tup (.cons (.str "let") (.cons (.str "used") (.cons (.glob "INT") (.cons (.var 5) (.cons (.var 6) .nil)))))))
 (.cons (.ret (.tup (.cons (.tup (.cons (.str "fn") (.cons (.glob "NAME") (.cons (.idx (.var 1) (.int 1)) (.cons (.var 7) .nil))))) (.cons (.tup (.cons (.str "let") (.cons (.str "given") (.cons (.idx (.var 2) (.int 2)) (.cons (.tup (.cons (.str "call") (.cons (.tup (.cons (.str "name") (.cons (.glob "NAME") .nil))) (.cons (.var 4) .nil)))) (.cons (.glob "NOUGHT") .nil)))))) .nil))))
 .nil))))⟩
def F_Trials_in_result : Fn := ⟨5, ["self", "coercion", "one", "two", "trial", "give", "use", "call"],
 (.cons (.asg [5, 6] (.var 4))
 (.cons (.set 7 (.tup (.cons (.str "call") (.cons (.tup (.cons (.str "name") (.cons (.glob "NAME") .nil))) (.cons (.meth (.var 0) "Trials" "passing" "Trials.passing" (.cons (.idx (.var 1) (.int 1)) (.cons (.idx (.var 3) (.int 1)) .nil))) .nil)))))
 (.cons (.ret (.tup (.cons (.tup (.cons (.str "fn") (.cons (.glob "NAME") (.cons (.idx (.var 2) (.int 1)) (.cons (.var 5) .nil))))) (.cons (.meth (.var 0) "Trials" "led" "Trials.led" (.cons (.idx (.var 3) (.int 2)) (.cons (.var 7) (.cons (.var 6) .nil)))) .nil))))
 .nil)))⟩
def F_Trials_in_part : Fn := ⟨5, ["self", "k", "one", "two", "trial", "give", "use", "pair"],
 (.cons (.asg [5, 6] (.var 4))
 (.cons (.set 7 (.ife (.cmp .eq (.var 1) (.int 1)) (.tup (.cons (.str "pair") (.cons (.var 5) (.cons (.meth (.var 0) "Trials" "some" "Trials.some" (.cons (.idx (.var 2) (.int 2)) .nil)) .nil)))) (.tup (.cons (.str "pair") (.cons (.meth (.var 0) "Trials" "some" "Trials.some" (.cons (.idx (.var 2) (.int 1)) .nil)) (.cons (.var 5) .nil))))))
 (.cons (.ret (.tup (.cons (.var 7) (.cons (.meth (.var 0) "Trials" "led" "Trials.led" (.cons (.idx (.var 3) (.var 1)) (.cons (.tup (.cons (.ife (.cmp .eq (.var 1) (.int 1)) (.str "first") (.str "second")) (.cons (.tup (.cons (.str "name") (.cons (.glob "NAME") .nil))) .nil))) (.cons (.var 6) .nil)))) .nil))))
 .nil)))⟩
def F_Trials_behind_tag : Fn := ⟨3, ["self", "one", "trial", "head"],
 (.cons (.set 3 (.call "ground" (.cons (.var 1) .nil)))
 (.cons (.ret (.tup (.cons (.idx (.var 2) (.int 0)) (.cons (.meth (.var 0) "Trials" "led" "Trials.led" (.cons (.var 3) (.cons (.meth (.var 0) "Trials" "cast" "Trials.cast" (.cons (.glob "ANY") (.cons (.var 3) (.cons (.tup (.cons (.str "name") (.cons (.glob "NAME") .nil))) .nil)))) (.cons (.idx (.var 2) (.int 1)) .nil)))) .nil))))
 .nil))⟩
def F_head_of : Fn := ⟨1, ["tag", "head"],
 (.cons (.ret (.idx (.lc (.var 1) (.name 1) (.seq (.glob "HEADS")) (.cons (.cmp .eq (.idx (.var 1) (.int 0)) (.var 0)) .nil) [("head", 1)]) (.int 0)))
 .nil)⟩
def F_parting : Fn := ⟨5, ["maker", "first", "second", "one", "two", "words", "check", "rest", "found"],
 (.cons (.iff (.cmp .eq (.var 1) (.var 2)) (.cons (.ret .non)
 .nil) .nil)
 (.cons (.set 5 (.tup (.cons (.idx (.var 1) (.int 0)) (.cons (.idx (.var 2) (.int 0)) .nil))))
 (.cons (.iff (.cmp .eq (.var 5) (.tup (.cons (.str "from") (.cons (.str "from") .nil)))) (.cons (.ret (.call "parting_checks" (.cons (.var 0) (.cons (.var 1) (.cons (.var 2) (.cons (.var 4) .nil))))))
 .nil) .nil)
 (.cons (.iff (.cmp .in_ (.str "from") (.var 5)) (.cons (.asg [6, 7] (.ife (.cmp .eq (.idx (.var 5) (.int 0)) (.str "from")) (.tup (.cons (.var 1) (.cons (.var 2) .nil))) (.tup (.cons (.var 2) (.cons (.var 1) .nil)))))
 (.cons (.iff (.or (.cmp .eq (.var 7) (.glob "STAY")) (.one (.cmp .ne (.slc (.var 7) (.cons (.int 1) .nil) (.cons (.int 3) .nil)) (.slc (.var 6) (.cons (.int 1) .nil) (.cons (.int 3) .nil))))) (.cons (.ret (.tup (.cons (.meth (.var 0) "Trials" "other" "Trials.other" (.cons (.tup (.cons (.idx (.var 6) (.int 3)) .nil)) .nil)) (.cons (.glob "NOUGHT") .nil))))
 .nil) .nil)
 (.cons (.ret (.tup (.cons (.meth (.var 0) "Trials" "some_under" "Trials.some_under" (.cons (.call "head_of" (.cons (.idx (.var 6) (.int 3)) .nil)) .nil)) (.cons (.glob "NOUGHT") .nil))))
 .nil))) .nil)
 (.cons (.iff (.or (.cmp .in_ (.str "fail") (.var 5)) (.one (.cmp .in_ (.str "stay") (.var 5)))) (.cons (.ret (.tup (.cons (.meth (.var 0) "Trials" "some" "Trials.some" (.cons (.var 3) .nil)) (.cons (.glob "NOUGHT") .nil))))
 .nil) .nil)
 (.cons (.iff (.cmp .eq (.idx (.var 5) (.int 0)) (.str "to")) (.cons (.set 8 (.call "parting" (.cons (.var 0) (.cons (.idx (.var 1) (.int 2)) (.cons (.idx (.var 2) (.int 2)) (.cons (.var 3) (.cons (.call "ground" (.cons (.var 3) .nil)) .nil)))))))
 (.cons (.ret (.ife (.cmp .is_ (.var 8) .non) .non (.meth (.var 0) "Trials" "behind_tag" "Trials.behind_tag" (.cons (.var 3) (.cons (.var 8) .nil)))))
 .nil)) .nil)
 (.cons (.ret (.call "parting_heads" (.cons (.var 0) (.cons (.var 1) (.cons (.var 2) (.cons (.var 3) (.cons (.var 4) .nil)))))))
 .nil)))))))⟩
def F_parting_checks : Fn := ⟨4, ["maker", "first", "second", "two", "head", "found"],
 (.cons (.iff (.cmp .ne (.slc (.var 1) (.cons (.int 1) .nil) (.cons (.int 3) .nil)) (.slc (.var 2) (.cons (.int 1) .nil) (.cons (.int 3) .nil))) (.cons (.ret (.tup (.cons (.meth (.var 0) "Trials" "other" "Trials.other" (.cons (.tup (.cons (.idx (.var 1) (.int 3)) (.cons (.idx (.var 2) (.int 3)) .nil))) .nil)) (.cons (.glob "NOUGHT") .nil))))
 .nil) .nil)
 (.cons (.iff (.cmp .ne (.idx (.var 1) (.int 3)) (.idx (.var 2) (.int 3))) (.cons (.ret (.tup (.cons (.meth (.var 0) "Trials" "some_under" "Trials.some_under" (.cons (.call "head_of" (.cons (.idx (.var 1) (.int 3)) .nil)) .nil)) (.cons (.glob "NOUGHT") .nil))))
 .nil) .nil)
 (.cons (.set 4 (.call "head_of" (.cons (.idx (.var 1) (.int 3)) .nil)))
 (.cons (.set 5 (.call "parting" (.cons (.var 0) (.cons (.idx (.var 1) (.int 4)) (.cons (.idx (.var 2) (.int 4)) (.cons (.var 4) (.cons (.var 3) .nil)))))))
 (.cons (.ret (.ife (.cmp .is_ (.var 5) .non) .non (.tup (.cons (.meth (.var 0) "Trials" "under" "Trials.under" (.cons (.var 4) (.cons (.idx (.var 5) (.int 0)) .nil))) (.cons (.idx (.var 5) (.int 1)) .nil)))))
 .nil)))))⟩
def F_parting_heads : Fn := ⟨5, ["maker", "first", "second", "one", "two", "found", "k"],
 (.cons (.iff (.cmp .eq (.idx (.var 1) (.int 0)) (.str "pair")) (.cons (.for_ (.name 6) (.seq (.tup (.cons (.int 1) (.cons (.int 2) .nil)))) (.cons (.set 5 (.call "parting" (.cons (.var 0) (.cons (.idx (.var 1) (.var 6)) (.cons (.idx (.var 2) (.var 6)) (.cons (.idx (.var 3) (.var 6)) (.cons (.idx (.var 4) (.var 6)) .nil)))))))
 (.cons (.iff (.cmp .isnt (.var 5) .non) (.cons (.ret (.meth (.var 0) "Trials" "in_part" "Trials.in_part" (.cons (.var 6) (.cons (.var 3) (.cons (.var 4) (.cons (.var 5) .nil))))))
 .nil) .nil)
 .nil)))
 (.cons (.ret .non)
 .nil)) .nil)
 (.cons (.set 5 (.call "parting" (.cons (.var 0) (.cons (.idx (.var 1) (.int 1)) (.cons (.idx (.var 2) (.int 1)) (.cons (.idx (.var 4) (.int 1)) (.cons (.idx (.var 3) (.int 1)) .nil)))))))
 (.cons (.iff (.cmp .isnt (.var 5) .non) (.cons (.ret (.meth (.var 0) "Trials" "in_argument" "Trials.in_argument" (.cons (.var 3) (.cons (.var 4) (.cons (.var 5) .nil)))))
 .nil) .nil)
 (.cons (.set 5 (.ife (.call "passes" (.cons (.idx (.var 1) (.int 1)) .nil)) (.call "parting" (.cons (.var 0) (.cons (.idx (.var 1) (.int 2)) (.cons (.idx (.var 2) (.int 2)) (.cons (.idx (.var 3) (.int 2)) (.cons (.idx (.var 4) (.int 2)) .nil)))))) .non))
 (.cons (.ret (.ife (.cmp .is_ (.var 5) .non) .non (.meth (.var 0) "Trials" "in_result" "Trials.in_result" (.cons (.var 1) (.cons (.var 3) (.cons (.var 4) (.cons (.var 5) .nil)))))))
 .nil)))))⟩
def F_alike_paper : Fn := ⟨4, ["first", "second", "one", "two", "trial"],
 (.cons (.set 4 (.call "parting" (.cons (.make "Trials" (.cons (.int 0) .nil)) (.cons (.var 0) (.cons (.var 1) (.cons (.var 2) (.cons (.var 3) .nil)))))))
 (.cons (.ret (.ife (.cmp .is_ (.var 4) .non) (.tup (.cons (.str "alike") .nil)) (.bin .add (.tup (.cons (.str "parts") .nil)) (.var 4))))
 .nil))⟩
def F_are_alike : Fn := ⟨4, ["first", "second", "one", "two"],
 (.cons (.ret (.cmp .eq (.idx (.call "alike_paper" (.cons (.var 0) (.cons (.var 1) (.cons (.var 2) (.cons (.var 3) .nil))))) (.int 0)) (.str "alike")))
 .nil)⟩
def F__law_agree : Fn := ⟨2, ["one", "two", "k"],
 (.cons (.iff (.cmp .in_ (.tup (.cons (.str "any") .nil)) (.tup (.cons (.var 0) (.cons (.var 1) .nil)))) (.cons (.ret (.bl true))
 .nil) .nil)
 (.cons (.ret (.and (.cmp .eq (.idx (.var 0) (.int 0)) (.idx (.var 1) (.int 0))) (.one (.cmp .eq (.blt .len (.lc (.var 2) (.name 2) (.range2 (.int 1) (.blt .len (.var 0))) (.cons (.not (.call "_law_agree" (.cons (.idx (.var 0) (.var 2)) (.cons (.idx (.var 1) (.var 2)) .nil)))) .nil) [("k", 2)])) (.int 0)))))
 .nil))⟩
def F__law_chain : Fn := ⟨3, ["pool", "kind", "many", "casts", "k", "other"],
 (.cons (.set 3 (.lst .nil))
 (.cons (.for_ (.name 4) (.range1 (.var 2)) (.cons (.set 5 (.call "_law_drift" (.cons (.var 0) (.cons (.var 1) (.cons (.int 2) .nil)))))
 (.cons (.append (.var 3) (.tup (.cons (.call "_law_draw" (.cons (.var 0) (.cons (.int 4) .nil))) (.cons (.bin .mod (.bin .mod (.call "_law_draw" (.cons (.var 0) (.cons (.int 4) .nil))) (.int 3)) (.int 2)) (.cons (.var 1) (.cons (.var 5) .nil))))))
 (.cons (.set 1 (.var 5))
 .nil))))
 (.cons (.ret (.var 3))
 .nil)))⟩
def F__law_leads : Fn := ⟨2, ["casts", "kind"],
 (.cons (.ret (.ife (.cmp .ne (.var 0) (.lst .nil)) (.idx (.idx (.var 0) (.neg 1)) (.int 3)) (.var 1)))
 .nil)⟩
def F__law_still : Fn := ⟨1, ["kind"],
 (.cons (.iff (.cmp .eq (.var 0) (.tup (.cons (.str "any") .nil))) (.cons (.ret (.tup (.cons (.str "stay") .nil)))
 .nil) .nil)
 (.cons (.iff (.cmp .eq (.blt .len (.var 0)) (.int 1)) (.cons (.ret (.tup (.cons (.str "same") .nil)))
 .nil) .nil)
 (.cons (.ret (.tup (.cons (.idx (.var 0) (.int 0)) (.cons (.call "_law_still" (.cons (.idx (.var 0) (.int 1)) .nil)) (.cons (.call "_law_still" (.cons (.idx (.var 0) (.int 2)) .nil)) .nil)))))
 .nil)))⟩
def F__law_does : Fn := ⟨1, ["cast", "label", "side", "one", "two"],
 (.cons (.asg [1, 2, 3, 4] (.var 0))
 (.cons (.iff (.and (.cmp .eq (.var 3) (.var 4)) (.one (.cmp .eq (.blt .len (.var 3)) (.int 1)))) (.cons (.ret (.call "_law_still" (.cons (.var 3) .nil)))
 .nil) .nil)
 (.cons (.iff (.cmp .eq (.var 3) (.tup (.cons (.str "any") .nil))) (.cons (.ret (.tup (.cons (.str "from") (.cons (.var 1) (.cons (.var 2) (.cons (.idx (.var 4) (.int 0)) (.cons (.call "_law_does" (.cons (.tup (.cons (.var 1) (.cons (.var 2) (.cons (.call "_law_top" (.cons (.var 4) .nil)) (.cons (.var 4) .nil))))) .nil)) .nil)))))))
 .nil) .nil)
 (.cons (.iff (.cmp .eq (.var 4) (.tup (.cons (.str "any") .nil))) (.cons (.ret (.tup (.cons (.str "to") (.cons (.idx (.var 3) (.int 0)) (.cons (.call "_law_does" (.cons (.tup (.cons (.var 1) (.cons (.var 2) (.cons (.var 3) (.cons (.call "_law_top" (.cons (.var 3) .nil)) .nil))))) .nil)) .nil)))))
 .nil) .nil)
 (.cons (.iff (.cmp .eq (.idx (.var 3) (.int 0)) (.str "fun")) (.cons (.ret (.tup (.cons (.str "fun") (.cons (.call "_law_does" (.cons (.tup (.cons (.var 1) (.cons (.bin .sub (.int 1) (.var 2)) (.cons (.idx (.var 4) (.int 1)) (.cons (.idx (.var 3) (.int 1)) .nil))))) .nil)) (.cons (.call "_law_does" (.cons (.tup (.cons (.var 1) (.cons (.var 2) (.cons (.idx (.var 3) (.int 2)) (.cons (.idx (.var 4) (.int 2)) .nil))))) .nil)) .nil)))))
 .nil) .nil)
 (.cons (.ret (.tup (.cons (.str "pair") (.cons (.call "_law_does" (.cons (.tup (.cons (.var 1) (.cons (.var 2) (.cons (.idx (.var 3) (.int 1)) (.cons (.idx (.var 4) (.int 1)) .nil))))) .nil)) (.cons (.call "_law_does" (.cons (.tup (.cons (.var 1) (.cons (.var 2) (.cons (.idx (.var 3) (.int 2)) (.cons (.idx (.var 4) (.int 2)) .nil))))) .nil)) .nil)))))
 .nil))))))⟩
def F__law_joined : Fn := ⟨2, ["one", "two", "first", "rest"],
 (.cons (.iff (.cmp .eq (.var 0) (.tup (.cons (.str "stay") .nil))) (.cons (.ret (.var 1))
 .nil) .nil)
 (.cons (.iff (.cmp .eq (.idx (.var 0) (.int 0)) (.str "fail")) (.cons (.ret (.var 0))
 .nil) .nil)
 (.cons (.iff (.cmp .eq (.idx (.var 0) (.int 0)) (.str "from")) (.cons (.set 3 (.call "_law_joined" (.cons (.idx (.var 0) (.int 4)) (.cons (.var 1) .nil))))
 (.cons (.ret (.ife (.cmp .eq (.var 3) (.tup (.cons (.str "fail") (.cons (.idx (.var 0) (.int 1)) (.cons (.idx (.var 0) (.int 2)) .nil))))) (.var 3) (.bin .add (.slc (.var 0) .nil (.cons (.int 4) .nil)) (.tup (.cons (.var 3) .nil)))))
 .nil)) .nil)
 (.cons (.iff (.cmp .eq (.idx (.var 1) (.int 0)) (.str "fail")) (.cons (.ret (.var 1))
 .nil) .nil)
 (.cons (.iff (.cmp .eq (.idx (.var 0) (.int 0)) (.str "to")) (.cons (.iff (.cmp .eq (.var 1) (.tup (.cons (.str "stay") .nil))) (.cons (.ret (.var 0))
 .nil) .nil)
 (.cons (.ret (.ife (.cmp .eq (.idx (.var 0) (.int 1)) (.idx (.var 1) (.int 3))) (.call "_law_joined" (.cons (.idx (.var 0) (.int 2)) (.cons (.idx (.var 1) (.int 4)) .nil))) (.tup (.cons (.str "fail") (.cons (.idx (.var 1) (.int 1)) (.cons (.idx (.var 1) (.int 2)) .nil))))))
 .nil)) .nil)
 (.cons (.iff (.cmp .eq (.idx (.var 1) (.int 0)) (.str "to")) (.cons (.ret (.tup (.cons (.str "to") (.cons (.idx (.var 1) (.int 1)) (.cons (.call "_law_joined" (.cons (.var 0) (.cons (.idx (.var 1) (.int 2)) .nil))) .nil)))))
 .nil) .nil)
 (.cons (.iff (.cmp .eq (.var 0) (.tup (.cons (.str "same") .nil))) (.cons (.ret (.var 0))
 .nil) .nil)
 (.cons (.set 2 (.ife (.cmp .eq (.idx (.var 0) (.int 0)) (.str "fun")) (.call "_law_joined" (.cons (.idx (.var 1) (.int 1)) (.cons (.idx (.var 0) (.int 1)) .nil))) (.call "_law_joined" (.cons (.idx (.var 0) (.int 1)) (.cons (.idx (.var 1) (.int 1)) .nil)))))
 (.cons (.ret (.tup (.cons (.idx (.var 0) (.int 0)) (.cons (.var 2) (.cons (.call "_law_joined" (.cons (.idx (.var 0) (.int 2)) (.cons (.idx (.var 1) (.int 2)) .nil))) .nil)))))
 .nil)))))))))⟩
def F__law_all : Fn := ⟨2, ["casts", "kind", "found", "cast"],
 (.cons (.set 2 (.call "_law_still" (.cons (.var 1) .nil)))
 (.cons (.for_ (.name 3) (.seq (.var 0)) (.cons (.set 2 (.call "_law_joined" (.cons (.var 2) (.cons (.call "_law_does" (.cons (.var 3) .nil)) .nil))))
 .nil))
 (.cons (.ret (.var 2))
 .nil)))⟩
def F__law_shut : Fn := ⟨1, ["one"],
 (.cons (.ret (.or (.cmp .eq (.idx (.var 0) (.int 0)) (.str "fail")) (.one (.and (.cmp .eq (.idx (.var 0) (.int 0)) (.str "from")) (.one (.cmp .eq (.idx (.idx (.var 0) (.int 4)) (.int 0)) (.str "fail")))))))
 .nil)⟩
def F__law_unlike : Fn := ⟨2, ["one", "two"],
 (.cons (.iff (.cmp .eq (.var 0) (.var 1)) (.cons (.ret (.bl false))
 .nil) .nil)
 (.cons (.iff (.or (.cmp .ne (.idx (.var 0) (.int 0)) (.idx (.var 1) (.int 0))) (.one (.cmp .nin (.idx (.var 0) (.int 0)) (.tup (.cons (.str "fun") (.cons (.str "pair") (.cons (.str "to") (.cons (.str "from") .nil)))))))) (.cons (.ret (.bl true))
 .nil) .nil)
 (.cons (.iff (.cmp .in_ (.idx (.var 0) (.int 0)) (.tup (.cons (.str "to") (.cons (.str "from") .nil)))) (.cons (.ret (.or (.cmp .ne (.slc (.var 0) .nil (.cons (.neg 1) .nil)) (.slc (.var 1) .nil (.cons (.neg 1) .nil))) (.one (.call "_law_unlike" (.cons (.idx (.var 0) (.neg 1)) (.cons (.idx (.var 1) (.neg 1)) .nil))))))
 .nil) .nil)
 (.cons (.iff (.call "_law_unlike" (.cons (.idx (.var 0) (.int 1)) (.cons (.idx (.var 1) (.int 1)) .nil))) (.cons (.ret (.bl true))
 .nil) .nil)
 (.cons (.ret (.and (.not (.and (.cmp .eq (.idx (.var 0) (.int 0)) (.str "fun")) (.one (.call "_law_shut" (.cons (.idx (.var 0) (.int 1)) .nil))))) (.one (.call "_law_unlike" (.cons (.idx (.var 0) (.int 2)) (.cons (.idx (.var 1) (.int 2)) .nil))))))
 .nil)))))⟩
def F__law_one_of : Fn := ⟨2, ["casts", "kind", "cast"],
 (.cons (.ret (.tup (.cons (.lc (.tup (.cons (.idx (.var 2) (.int 0)) (.cons (.int 1) (.cons (.idx (.var 2) (.int 2)) (.cons (.idx (.var 2) (.int 3)) .nil))))) (.name 2) (.seq (.var 0)) .nil [("cast", 2)]) (.cons (.call "_law_leads" (.cons (.var 0) (.cons (.var 1) .nil))) .nil))))
 .nil)⟩
end P3
set_option Elab.async false
set_option linter.all false
set_option maxRecDepth 100000
set_option maxHeartbeats 0
/-! T91: the text of the law as P3 syntax (printed by conv.py) -/
namespace P3.K91
open PySem L2
def tp (i : Nat) : Stmt := PySem.Challenge.pw_halftyped_k91_whole_values_that_are_no_c.main.body.getD i (.Pass ⟨0, 0, 0, 0⟩)
def F_parts_of_coercions : Fn := ⟨1, ["coercion"],
 (.cons (.iff (.cmp .in_ (.idx (.var 0) (.int 0)) (.tup (.cons (.str "fun") (.cons (.str "pair") .nil)))) (.cons (.ret (.blt .list (.slc (.var 0) (.cons (.int 1) .nil) .nil)))
 .nil) .nil)
 (.cons (.ret (.ife (.cmp .in_ (.idx (.var 0) (.int 0)) (.tup (.cons (.str "to") (.cons (.str "from") .nil)))) (.lst (.cons (.idx (.var 0) (.neg 1)) .nil)) (.lst .nil)))
 .nil))⟩
def F_is_coercion : Fn := ⟨3, ["value", "one", "two", "word", "many"],
 (.cons (.iff (.or (.not (.isi (.var 0) .tuple)) (.or (.cmp .eq (.blt .len (.var 0)) (.int 0)) (.one (.not (.isi (.idx (.var 0) (.int 0)) .str))))) (.cons (.ret (.bl false))
 .nil) .nil)
 (.cons (.par [3, 4] (.cons (.idx (.var 0) (.int 0)) (.cons (.blt .len (.var 0)) .nil)))
 (.cons (.iff (.cmp .eq (.var 3) (.str "fail")) (.cons (.ret (.and (.cmp .eq (.var 4) (.int 3)) (.one (.call "is_label" (.cons (.idx (.var 0) (.int 1)) (.cons (.idx (.var 0) (.int 2)) .nil))))))
 .nil) .nil)
 (.cons (.iff (.cmp .eq (.var 3) (.str "stay")) (.cons (.ret (.and (.cmp .eq (.var 4) (.int 1)) (.and (.cmp .eq (.var 1) (.glob "ANY")) (.one (.cmp .eq (.var 2) (.glob "ANY"))))))
 .nil) .nil)
 (.cons (.iff (.cmp .eq (.var 3) (.str "from")) (.cons (.ret (.and (.cmp .eq (.var 1) (.glob "ANY")) (.and (.cmp .eq (.var 4) (.int 5)) (.one (.call "is_check" (.cons (.var 0) (.cons (.var 2) .nil)))))))
 .nil) .nil)
 (.cons (.iff (.cmp .eq (.var 3) (.str "to")) (.cons (.ret (.and (.cmp .eq (.var 2) (.glob "ANY")) (.and (.cmp .eq (.var 4) (.int 3)) (.one (.call "is_tagging" (.cons (.var 0) (.cons (.var 1) .nil)))))))
 .nil) .nil)
 (.cons (.ret (.and (.cmp .in_ (.var 3) (.glob "HEADS_coercions")) (.one (.call "is_head" (.cons (.var 0) (.cons (.var 1) (.cons (.var 2) .nil)))))))
 .nil)))))))⟩
def F_is_check : Fn := ⟨2, ["value", "two", "first", "rest"],
 (.cons .never
 (.cons .never
 (.cons .never
 (.cons .never
 (.cons .never
 .nil)))))⟩
def F_is_tagging : Fn := ⟨2, ["value", "one"],
 (.cons (.iff (.or (.cmp .eq (.var 1) (.glob "ANY")) (.or (.not (.isi (.idx (.var 0) (.int 1)) .str)) (.one (.cmp .ne (.idx (.var 0) (.int 1)) (.idx (.var 1) (.int 0)))))) (.cons (.ret (.bl false))
 .nil) .nil)
 (.cons (.ret (.and (.call "is_coercion" (.cons (.idx (.var 0) (.int 2)) (.cons (.var 1) (.cons (.call "ground" (.cons (.var 1) .nil)) .nil)))) (.one (.cmp .in_ (.idx (.idx (.var 0) (.int 2)) (.int 0)) (.glob "HEADS_coercions")))))
 .nil))⟩
def F_is_core : Fn := ⟨2, ["value", "deep", "mark", "piece"],
 (.cons (.iff (.or (.cmp .eq (.var 1) (.int 0)) (.or (.not (.isi (.var 0) .tuple)) (.or (.cmp .eq (.blt .len (.var 0)) (.int 0)) (.one (.not (.isi (.idx (.var 0) (.int 0)) .str)))))) (.cons (.ret (.bl false))
 .nil) .nil)
 (.cons (.iff (.or (.kin true "FORMS_cores" (.idx (.var 0) (.int 0))) (.one (.cmp .ne (.blt .len (.var 0)) (.bin .add (.int 1) (.blt .len (.kget "FORMS_cores" (.idx (.var 0) (.int 0)))))))) (.cons (.ret (.bl false))
 .nil) .nil)
 (.cons .never
 .nil)))⟩
def F_live_labels : Fn := ⟨1, ["coercion", "found", "part"],
 (.cons (.set 1 (.ife (.cmp .in_ (.idx (.var 0) (.int 0)) (.tup (.cons (.str "from") (.cons (.str "fail") .nil)))) (.lst (.cons (.slc (.var 0) (.cons (.int 1) .nil) (.cons (.int 3) .nil)) .nil)) (.lst .nil)))
 (.cons (.for_ (.name 2) (.seq (.call "parts_of_coercions" (.cons (.var 0) .nil))) (.cons (.iff (.or (.cmp .ne (.idx (.var 0) (.int 0)) (.str "fun")) (.or (.cmp .eq (.var 2) (.idx (.var 0) (.int 1))) (.one (.call "passes" (.cons (.idx (.var 0) (.int 1)) .nil))))) (.cons (.extend (.var 1) (.call "live_labels" (.cons (.var 2) .nil)))
 .nil) .nil)
 .nil))
 (.cons (.ret (.blt .tuple (.sset (.var 1))))
 .nil)))⟩
def F_is_trial : Fn := ⟨4, ["give", "use", "one", "two"],
 (.cons (.iff (.or (.not (.call "is_core" (.cons (.var 0) (.cons (.glob "DEEPEST_trials") .nil)))) (.one (.not (.call "is_core" (.cons (.var 1) (.cons (.glob "DEEPEST_trials") .nil)))))) (.cons (.ret (.bl false))
 .nil) .nil)
 (.cons .never
 .nil))⟩
def F_check_blame : Fn := ⟨5, ["coercion", "one", "two", "due", "value", "own", "label", "_"],
 (.cons (.iff (.or (.not (.isi (.var 4) .tuple)) (.or (.cmp .eq (.blt .len (.var 4)) (.int 0)) (.one (.not (.isi (.idx (.var 4) (.int 0)) .str))))) (.cons (.ret (.bl false))
 .nil) .nil)
 (.cons (.iff (.cmp .eq (.idx (.var 4) (.int 0)) (.str "never")) (.cons (.ret (.and (.cmp .eq (.blt .len (.var 4)) (.int 1)) (.one (.cmp .nin (.var 3) (.call "live_labels" (.cons (.var 0) .nil))))))
 .nil) .nil)
 (.cons (.iff (.or (.cmp .ne (.idx (.var 4) (.int 0)) (.str "blamed")) (.or (.cmp .ne (.blt .len (.var 4)) (.int 3)) (.one (.not (.call "is_trial" (.cons (.idx (.var 4) (.int 1)) (.cons (.idx (.var 4) (.int 2)) (.cons (.var 1) (.cons (.var 2) .nil))))))))) (.cons (.ret (.bl false))
 .nil) .nil)
 (.cons .never
 (.cons .never
 .nil)))))⟩
def F_parting : Fn := ⟨5, ["maker", "first", "second", "one", "two", "words", "check", "rest", "found"],
 (.cons (.iff (.cmp .eq (.var 1) (.var 2)) (.cons (.ret .non)
 .nil) .nil)
 (.cons .never
 (.cons .never
 (.cons .never
 (.cons .never
 (.cons .never
 (.cons .never
 .nil)))))))⟩
def F_check_alike : Fn := ⟨5, ["first", "second", "one", "two", "value"],
 (.cons (.iff (.or (.not (.isi (.var 4) .tuple)) (.or (.cmp .eq (.blt .len (.var 4)) (.int 0)) (.one (.not (.isi (.idx (.var 4) (.int 0)) .str))))) (.cons (.ret (.bl false))
 .nil) .nil)
 (.cons (.iff (.cmp .eq (.idx (.var 4) (.int 0)) (.str "alike")) (.cons (.ret (.and (.cmp .eq (.blt .len (.var 4)) (.int 1)) (.one (.cmp .eq (.call "alike_paper" (.cons (.var 0) (.cons (.var 1) (.cons (.var 2) (.cons (.var 3) .nil))))) (.tup (.cons (.str "alike") .nil))))))
 .nil) .nil)
 (.cons (.iff (.or (.cmp .ne (.idx (.var 4) (.int 0)) (.str "parts")) (.or (.cmp .ne (.blt .len (.var 4)) (.int 3)) (.one (.not (.call "is_trial" (.cons (.idx (.var 4) (.int 1)) (.cons (.idx (.var 4) (.int 2)) (.cons (.var 2) (.cons (.var 3) .nil))))))))) (.cons (.ret (.bl false))
 .nil) .nil)
 (.cons .never
 .nil))))⟩
def F_is_row : Fn := ⟨1, ["value", "word"],
 (.cons (.iff (.or (.not (.isi (.var 0) .tuple)) (.or (.cmp .eq (.blt .len (.var 0)) (.int 0)) (.one (.not (.isi (.idx (.var 0) (.int 0)) .str))))) (.cons (.ret (.bl false))
 .nil) .nil)
 (.cons (.set 1 (.idx (.var 0) (.int 0)))
 (.cons (.iff (.or (.kin true "SIZES" (.var 1)) (.one (.cmp .ne (.blt .len (.var 0)) (.kget "SIZES" (.var 1))))) (.cons (.ret (.bl false))
 .nil) .nil)
 (.cons (.iff (.cmp .eq (.blt .len (.var 0)) (.int 1)) (.cons (.ret (.bl true))
 .nil) .nil)
 (.cons (.iff (.cmp .eq (.var 1) (.str "math")) (.cons (.ret (.and (.isi (.idx (.var 0) (.int 1)) .str) (.one (.cmp .in_ (.idx (.var 0) (.int 1)) (.glob "MATH")))))
 .nil) .nil)
 (.cons (.iff (.cmp .in_ (.var 1) (.tup (.cons (.str "coerce") (.cons (.str "later") .nil)))) (.cons (.ret (.call "has_shape" (.cons (.idx (.var 0) (.int 1)) (.cons (.glob "DEEPEST_codes") .nil))))
 .nil) .nil)
 (.cons (.ret (.call "is_from" (.cons (.idx (.var 0) (.int 1)) (.cons (.int 0) (.cons (.ife (.cmp .eq (.var 1) (.str "word")) (.glob "MOST_WORD") (.ife (.cmp .eq (.var 1) (.str "truth")) (.int 1) (.glob "MOST"))) .nil)))))
 .nil)))))))⟩
def F_has_shape : Fn := ⟨2, ["value", "deep", "word", "many", "head", "part"],
 (.cons (.iff (.or (.cmp .eq (.var 1) (.int 0)) (.or (.not (.isi (.var 0) .tuple)) (.or (.cmp .eq (.blt .len (.var 0)) (.int 0)) (.one (.not (.isi (.idx (.var 0) (.int 0)) .str)))))) (.cons (.ret (.bl false))
 .nil) .nil)
 (.cons (.par [2, 3] (.cons (.idx (.var 0) (.int 0)) (.cons (.blt .len (.var 0)) .nil)))
 (.cons (.iff (.cmp .in_ (.var 2) (.tup (.cons (.str "stay") (.cons (.str "same") .nil)))) (.cons (.ret (.cmp .eq (.var 3) (.int 1)))
 .nil) .nil)
 (.cons (.iff (.cmp .eq (.var 2) (.str "fail")) (.cons (.ret (.and (.cmp .eq (.var 3) (.int 3)) (.one (.call "is_label" (.cons (.idx (.var 0) (.int 1)) (.cons (.idx (.var 0) (.int 2)) .nil))))))
 .nil) .nil)
 (.cons (.iff (.cmp .eq (.var 2) (.str "from")) (.cons (.set 4 (.and (.cmp .eq (.var 3) (.int 5)) (.and (.call "is_label" (.cons (.idx (.var 0) (.int 1)) (.cons (.idx (.var 0) (.int 2)) .nil))) (.and (.isi (.idx (.var 0) (.int 3)) .str) (.one (.cmp .in_ (.idx (.var 0) (.int 3)) (.glob "TAGS")))))))
 (.cons (.ret (.and (.var 4) (.and (.call "has_shape" (.cons (.idx (.var 0) (.int 4)) (.cons (.bin .sub (.var 1) (.int 1)) .nil))) (.one (.cmp .nin (.idx (.idx (.var 0) (.int 4)) (.int 0)) (.tup (.cons (.str "stay") (.cons (.str "from") .nil))))))))
 .nil)) .nil)
 (.cons (.iff (.cmp .eq (.var 2) (.str "to")) (.cons (.set 4 (.and (.cmp .eq (.var 3) (.int 3)) (.and (.isi (.idx (.var 0) (.int 1)) .str) (.one (.cmp .in_ (.idx (.var 0) (.int 1)) (.glob "TAGS"))))))
 (.cons (.ret (.and (.var 4) (.and (.call "has_shape" (.cons (.idx (.var 0) (.int 2)) (.cons (.bin .sub (.var 1) (.int 1)) .nil))) (.one (.cmp .in_ (.idx (.idx (.var 0) (.int 2)) (.int 0)) (.glob "HEADS_coercions"))))))
 .nil)) .nil)
 (.cons (.ret (.and (.cmp .in_ (.var 2) (.tup (.cons (.str "fun") (.cons (.str "pair") .nil)))) (.and (.cmp .eq (.var 3) (.int 3)) (.one (.blt .all (.lc (.call "has_shape" (.cons (.var 5) (.cons (.bin .sub (.var 1) (.int 1)) .nil))) (.name 5) (.seq (.slc (.var 0) (.cons (.int 1) .nil) .nil)) .nil [("part", 5)]))))))
 .nil)))))))⟩
def F_is_code : Fn := ⟨1, ["value", "row"],
 (.cons (.iff (.or (.not (.isi (.var 0) .tuple)) (.or (.not (.chain .le .le (.int 1) (.blt .len (.var 0)) (.glob "MOST"))) (.one (.not (.blt .all (.lc (.call "is_row" (.cons (.var 1) .nil)) (.name 1) (.seq (.var 0)) .nil [("row", 1)])))))) (.cons (.ret (.bl false))
 .nil) .nil)
 (.cons (.ret (.blt .all (.lc (.cmp .lt (.idx (.var 1) (.int 1)) (.blt .len (.var 0))) (.name 1) (.seq (.var 0)) (.cons (.cmp .in_ (.idx (.var 1) (.int 0)) (.tup (.cons (.str "fn") (.cons (.str "rec") (.cons (.str "unless") (.cons (.str "jump") .nil)))))) .nil) [("row", 1)])))
 .nil))⟩
def F__law_within : Fn := ⟨1, ["one"],
 (.cons (.iff (.cmp .in_ (.idx (.var 0) (.int 0)) (.tup (.cons (.str "fun") (.cons (.str "pair") .nil)))) (.cons (.ret (.lst (.cons (.idx (.var 0) (.int 1)) (.cons (.idx (.var 0) (.int 2)) .nil))))
 .nil) .nil)
 (.cons (.ret (.ife (.cmp .in_ (.idx (.var 0) (.int 0)) (.tup (.cons (.str "to") (.cons (.str "from") .nil)))) (.lst (.cons (.idx (.var 0) (.bin .sub (.blt .len (.var 0)) (.int 1))) .nil)) (.lst .nil)))
 .nil))⟩
def F__law_owners : Fn := ⟨2, ["one", "live", "found", "parts", "part"],
 (.cons (.set 2 (.ife (.cmp .in_ (.idx (.var 0) (.int 0)) (.tup (.cons (.str "from") (.cons (.str "fail") .nil)))) (.lst (.cons (.tup (.cons (.idx (.var 0) (.int 1)) (.cons (.idx (.var 0) (.int 2)) .nil))) .nil)) (.lst .nil)))
 (.cons (.freeze 2)
 (.cons (.set 3 (.call "_law_within" (.cons (.var 0) .nil)))
 (.cons (.freeze 3)
 (.cons (.iff (.and (.cmp .eq (.idx (.var 0) (.int 0)) (.str "fun")) (.and (.var 1) (.one (.call "_law_shut" (.cons (.idx (.var 0) (.int 1)) .nil))))) (.cons (.set 3 (.slc (.var 3) .nil (.cons (.int 1) .nil)))
 (.cons (.freeze 3)
 .nil)) .nil)
 (.cons (.for_ (.name 4) (.seq (.var 3)) (.cons (.set 2 (.bin .add (.var 2) (.call "_law_owners" (.cons (.var 4) (.cons (.var 1) .nil)))))
 (.cons (.freeze 2)
 .nil)))
 (.cons (.ret (.call "_law_once" (.cons (.var 2) .nil)))
 .nil)))))))⟩
def F__law_once : Fn := ⟨1, ["rows", "found", "row"],
 (.cons (.set 1 (.lst .nil))
 (.cons (.for_ (.name 2) (.seq (.srt (.var 0))) (.cons (.iff (.or (.cmp .eq (.var 1) (.lst .nil)) (.one (.cmp .ne (.idx (.var 1) (.neg 1)) (.var 2)))) (.cons (.append (.var 1) (.var 2))
 .nil) .nil)
 .nil))
 (.cons (.ret (.var 1))
 .nil)))⟩
def F__law_is_co : Fn := ⟨3, ["value", "one", "two", "word", "many", "heads", "first", "head"],
 (.cons (.iff (.or (.not (.isi (.var 0) .tuple)) (.or (.cmp .eq (.blt .len (.var 0)) (.int 0)) (.one (.not (.isi (.idx (.var 0) (.int 0)) .str))))) (.cons (.ret (.bl false))
 .nil) .nil)
 (.cons (.par [3, 4] (.cons (.idx (.var 0) (.int 0)) (.cons (.blt .len (.var 0)) .nil)))
 (.cons (.iff (.cmp .eq (.var 3) (.str "fail")) (.cons (.ret (.and (.cmp .eq (.var 4) (.int 3)) (.one (.call "_law_owner" (.cons (.idx (.var 0) (.int 1)) (.cons (.idx (.var 0) (.int 2)) .nil))))))
 .nil) .nil)
 (.cons (.iff (.cmp .in_ (.var 3) (.tup (.cons (.str "stay") (.cons (.str "same") .nil)))) (.cons (.ret (.and (.cmp .eq (.var 4) (.int 1)) (.and (.cmp .eq (.var 1) (.var 2)) (.one (.cmp .in_ (.var 1) (.ife (.cmp .eq (.var 3) (.str "stay")) (.lst (.cons (.tup (.cons (.str "any") .nil)) .nil)) (.lst (.cons (.tup (.cons (.str "int") .nil)) (.cons (.tup (.cons (.str "bool") .nil)) .nil)))))))))
 .nil) .nil)
 (.cons (.iff (.cmp .in_ (.var 3) (.tup (.cons (.str "fun") (.cons (.str "pair") .nil)))) (.cons (.iff (.or (.cmp .ne (.var 4) (.int 3)) (.or (.cmp .ne (.idx (.var 1) (.int 0)) (.var 3)) (.one (.cmp .ne (.idx (.var 2) (.int 0)) (.var 3))))) (.cons (.ret (.bl false))
 .nil) .nil)
 (.cons (.set 6 (.ife (.cmp .eq (.var 3) (.str "fun")) (.call "_law_is_co" (.cons (.idx (.var 0) (.int 1)) (.cons (.idx (.var 2) (.int 1)) (.cons (.idx (.var 1) (.int 1)) .nil)))) (.call "_law_is_co" (.cons (.idx (.var 0) (.int 1)) (.cons (.idx (.var 1) (.int 1)) (.cons (.idx (.var 2) (.int 1)) .nil))))))
 (.cons (.ret (.and (.var 6) (.one (.call "_law_is_co" (.cons (.idx (.var 0) (.int 2)) (.cons (.idx (.var 1) (.int 2)) (.cons (.idx (.var 2) (.int 2)) .nil)))))))
 .nil))) .nil)
 (.cons (.iff (.cmp .eq (.var 3) (.str "to")) (.cons (.iff (.or (.cmp .ne (.var 4) (.int 3)) (.or (.cmp .ne (.var 2) (.tup (.cons (.str "any") .nil))) (.or (.cmp .eq (.var 1) (.var 2)) (.or (.cmp .ne (.idx (.var 0) (.int 1)) (.idx (.var 1) (.int 0))) (.one (.not (.isi (.idx (.var 0) (.int 1)) .str))))))) (.cons (.ret (.bl false))
 .nil) .nil)
 (.cons (.ret (.and (.call "_law_is_co" (.cons (.idx (.var 0) (.int 2)) (.cons (.var 1) (.cons (.call "_law_top" (.cons (.var 1) .nil)) .nil)))) (.one (.cmp .in_ (.idx (.idx (.var 0) (.int 2)) (.int 0)) (.tup (.cons (.str "same") (.cons (.str "fun") (.cons (.str "pair") .nil))))))))
 .nil)) .nil)
 (.cons (.iff (.or (.cmp .ne (.var 3) (.str "from")) (.or (.cmp .ne (.var 4) (.int 5)) (.or (.cmp .ne (.var 1) (.tup (.cons (.str "any") .nil))) (.or (.not (.call "_law_owner" (.cons (.idx (.var 0) (.int 1)) (.cons (.idx (.var 0) (.int 2)) .nil)))) (.one (.not (.isi (.idx (.var 0) (.int 3)) .str))))))) (.cons (.ret (.bl false))
 .nil) .nil)
 (.cons (.set 5 (.lc (.var 7) (.name 7) (.seq (.call "_law_heads" .nil)) (.cons (.cmp .eq (.idx (.var 7) (.int 0)) (.idx (.var 0) (.int 3))) .nil) [("head", 7)]))
 (.cons (.freeze 5)
 (.cons (.iff (.or (.cmp .eq (.var 5) (.lst .nil)) (.or (.not (.call "_law_is_co" (.cons (.idx (.var 0) (.int 4)) (.cons (.idx (.var 5) (.int 0)) (.cons (.var 2) .nil))))) (.one (.cmp .in_ (.idx (.idx (.var 0) (.int 4)) (.int 0)) (.tup (.cons (.str "stay") (.cons (.str "from") .nil))))))) (.cons (.ret (.bl false))
 .nil) .nil)
 (.cons (.ret (.cmp .ne (.idx (.var 0) (.int 4)) (.tup (.cons (.str "fail") (.cons (.idx (.var 0) (.int 1)) (.cons (.idx (.var 0) (.int 2)) .nil))))))
 .nil)))))))))))⟩
def F__law_heads : Fn := ⟨0, ["a"],
 (.cons (.set 0 (.tup (.cons (.str "any") .nil)))
 (.cons (.ret (.lst (.cons (.tup (.cons (.str "int") .nil)) (.cons (.tup (.cons (.str "bool") .nil)) (.cons (.tup (.cons (.str "fun") (.cons (.var 0) (.cons (.var 0) .nil)))) (.cons (.tup (.cons (.str "pair") (.cons (.var 0) (.cons (.var 0) .nil)))) .nil))))))
 .nil))⟩
def F__law_owner : Fn := ⟨2, ["label", "side"],
 (.cons (.ret (.and (.call "_law_is" (.cons (.var 0) (.cons (.int 0) (.cons (.int 199) .nil)))) (.one (.call "_law_is" (.cons (.var 1) (.cons (.int 0) (.cons (.int 1) .nil)))))))
 .nil)⟩
def F__law_is : Fn := ⟨3, ["value", "low", "high"],
 (.cons (.ret (.and (.isi (.var 0) .int) (.and (.not (.isi (.var 0) .bool)) (.one (.chain .le .le (.var 1) (.var 0) (.var 2))))))
 .nil)⟩
def F__law_is_code : Fn := ⟨1, ["value", "row"],
 (.cons (.iff (.or (.not (.isi (.var 0) .tuple)) (.or (.cmp .lt (.blt .len (.var 0)) (.int 1)) (.one (.cmp .gt (.blt .len (.var 0)) (.int 5000))))) (.cons (.ret (.bl false))
 .nil) .nil)
 (.cons (.ret (.cmp .eq (.blt .len (.lc (.var 1) (.name 1) (.seq (.var 0)) (.cons (.not (.call "_law_is_row" (.cons (.var 1) (.cons (.blt .len (.var 0)) .nil)))) .nil) [("row", 1)])) (.int 0)))
 .nil))⟩
def F__law_is_row : Fn := ⟨2, ["row", "many", "alone", "most"],
 (.cons (.iff (.or (.not (.isi (.var 0) .tuple)) (.or (.cmp .eq (.blt .len (.var 0)) (.int 0)) (.one (.not (.isi (.idx (.var 0) (.int 0)) .str))))) (.cons (.ret (.bl false))
 .nil) .nil)
 (.cons (.set 2 (.lst (.cons (.str "call") (.cons (.str "tailcall") (.cons (.str "return") (.cons (.str "bind") (.cons (.str "unbind") (.cons (.str "pair") (.cons (.str "first") (.cons (.str "second") (.cons (.str "tell") .nil)))))))))))
 (.cons (.freeze 2)
 (.cons (.iff (.or (.cmp .in_ (.idx (.var 0) (.int 0)) (.var 2)) (.one (.cmp .ne (.blt .len (.var 0)) (.int 2)))) (.cons (.ret (.and (.cmp .in_ (.idx (.var 0) (.int 0)) (.var 2)) (.one (.cmp .eq (.blt .len (.var 0)) (.int 1)))))
 .nil) .nil)
 (.cons (.iff (.cmp .eq (.idx (.var 0) (.int 0)) (.str "math")) (.cons (.ret (.and (.isi (.idx (.var 0) (.int 1)) .str) (.one (.cmp .in_ (.idx (.var 0) (.int 1)) (.tup (.cons (.str "plus") (.cons (.str "minus") (.cons (.str "times") (.cons (.str "less") (.cons (.str "same") .nil))))))))))
 .nil) .nil)
 (.cons (.iff (.cmp .in_ (.idx (.var 0) (.int 0)) (.tup (.cons (.str "coerce") (.cons (.str "later") .nil)))) (.cons (.ret (.call "_law_looks" (.cons (.idx (.var 0) (.int 1)) (.cons (.int 100) .nil))))
 .nil) .nil)
 (.cons (.set 3 (.dct (.cons (.str "word") (.cons (.int 9999) (.cons (.str "truth") (.cons (.int 1) (.cons (.str "name") (.cons (.int 5000) (.cons (.str "fn") (.cons (.bin .sub (.var 1) (.int 1)) (.cons (.str "rec") (.cons (.bin .sub (.var 1) (.int 1)) (.cons (.str "unless") (.cons (.bin .sub (.var 1) (.int 1)) (.cons (.str "jump") (.cons (.bin .sub (.var 1) (.int 1)) .nil))))))))))))))))
 (.cons (.freeze 3)
 (.cons (.ret (.and (.cmp .in_ (.idx (.var 0) (.int 0)) (.tup (.cons (.str "word") (.cons (.str "truth") (.cons (.str "name") (.cons (.str "fn") (.cons (.str "rec") (.cons (.str "unless") (.cons (.str "jump") .nil))))))))) (.one (.call "_law_is" (.cons (.idx (.var 0) (.int 1)) (.cons (.int 0) (.cons (.idx (.var 3) (.idx (.var 0) (.int 0))) .nil)))))))
 .nil)))))))))⟩
def F__law_looks : Fn := ⟨2, ["value", "deep", "word", "many", "tags"],
 (.cons (.iff (.or (.cmp .eq (.var 1) (.int 0)) (.or (.not (.isi (.var 0) .tuple)) (.or (.cmp .eq (.blt .len (.var 0)) (.int 0)) (.one (.not (.isi (.idx (.var 0) (.int 0)) .str)))))) (.cons (.ret (.bl false))
 .nil) .nil)
 (.cons (.par [2, 3] (.cons (.idx (.var 0) (.int 0)) (.cons (.blt .len (.var 0)) .nil)))
 (.cons (.iff (.cmp .in_ (.var 2) (.tup (.cons (.str "stay") (.cons (.str "same") .nil)))) (.cons (.ret (.cmp .eq (.var 3) (.int 1)))
 .nil) .nil)
 (.cons (.iff (.cmp .eq (.var 2) (.str "fail")) (.cons (.ret (.and (.cmp .eq (.var 3) (.int 3)) (.one (.call "_law_owner" (.cons (.idx (.var 0) (.int 1)) (.cons (.idx (.var 0) (.int 2)) .nil))))))
 .nil) .nil)
 (.cons (.iff (.cmp .in_ (.var 2) (.tup (.cons (.str "fun") (.cons (.str "pair") .nil)))) (.cons (.ret (.and (.cmp .eq (.var 3) (.int 3)) (.and (.call "_law_looks" (.cons (.idx (.var 0) (.int 1)) (.cons (.bin .sub (.var 1) (.int 1)) .nil))) (.one (.call "_law_looks" (.cons (.idx (.var 0) (.int 2)) (.cons (.bin .sub (.var 1) (.int 1)) .nil)))))))
 .nil) .nil)
 (.cons (.set 4 (.lst (.cons (.str "int") (.cons (.str "bool") (.cons (.str "fun") (.cons (.str "pair") .nil))))))
 (.cons (.freeze 4)
 (.cons (.iff (.cmp .eq (.var 2) (.str "to")) (.cons (.ret (.and (.cmp .eq (.var 3) (.int 3)) (.and (.isi (.idx (.var 0) (.int 1)) .str) (.and (.cmp .in_ (.idx (.var 0) (.int 1)) (.var 4)) (.and (.call "_law_looks" (.cons (.idx (.var 0) (.int 2)) (.cons (.bin .sub (.var 1) (.int 1)) .nil))) (.one (.cmp .in_ (.idx (.idx (.var 0) (.int 2)) (.int 0)) (.tup (.cons (.str "same") (.cons (.str "fun") (.cons (.str "pair") .nil)))))))))))
 .nil) .nil)
 (.cons (.iff (.or (.cmp .ne (.var 2) (.str "from")) (.or (.cmp .ne (.var 3) (.int 5)) (.or (.not (.call "_law_owner" (.cons (.idx (.var 0) (.int 1)) (.cons (.idx (.var 0) (.int 2)) .nil)))) (.or (.not (.isi (.idx (.var 0) (.int 3)) .str)) (.one (.cmp .nin (.idx (.var 0) (.int 3)) (.var 4))))))) (.cons (.ret (.bl false))
 .nil) .nil)
 (.cons (.ret (.and (.call "_law_looks" (.cons (.idx (.var 0) (.int 4)) (.cons (.bin .sub (.var 1) (.int 1)) .nil))) (.one (.cmp .nin (.idx (.idx (.var 0) (.int 4)) (.int 0)) (.tup (.cons (.str "stay") (.cons (.str "from") .nil)))))))
 .nil))))))))))⟩
def F__law_junk : Fn := ⟨2, ["pool", "deep", "way", "rows", "k"],
 (.cons (.set 2 (.call "_law_draw" (.cons (.var 0) (.cons (.int 14) .nil))))
 (.cons (.iff (.and (.cmp .gt (.var 1) (.int 0)) (.one (.cmp .lt (.var 2) (.int 6)))) (.cons (.set 3 (.lc (.call "_law_junk" (.cons (.var 0) (.cons (.bin .sub (.var 1) (.int 1)) .nil))) (.name 4) (.range1 (.call "_law_draw" (.cons (.var 0) (.cons (.int 4) .nil)))) .nil [("k", 4)]))
 (.cons (.freeze 3)
 (.cons (.ret (.ife (.cmp .lt (.var 2) (.int 4)) (.blt .tuple (.var 3)) (.var 3)))
 .nil))) .nil)
 (.cons (.ret (.idx (.lst (.cons .non (.cons (.bl true) (.cons (.bl false) (.cons (.int 0) (.cons (.neg 1) (.cons (.int 1000000000000000000000) (.cons (.str "") (.cons (.str "fun") (.cons (.str "from") (.cons (.str "same") (.cons (.tup .nil) (.cons (.lst .nil) (.cons (.str "coerce") (.cons (.str "blamed") .nil))))))))))))))) (.var 2)))
 .nil)))⟩
def B_law_1 : MSs := (.cons (.iff (.not (.call "_law_same" (.cons (.call "check_blame" (.cons (.var 5) (.cons (.var 2) (.cons (.var 4) (.cons (.var 10) (.cons (.var 9) .nil)))))) (.cons (.and (.cmp .eq (.var 9) (.tup (.cons (.str "never") .nil))) (.one (.cmp .nin (.var 10) (.call "_law_owners" (.cons (.var 5) (.cons (.bl true) .nil)))))) .nil)))) (.cons (.ret (.bl false))
 .nil) .nil)
 .nil)
def S_law_2 : MS := (.iff (.or (.not (.call "_law_same" (.cons (.call "is_coercion" (.cons (.var 9) (.cons (.var 2) (.cons (.var 4) .nil)))) (.cons (.call "_law_is_co" (.cons (.var 9) (.cons (.var 2) (.cons (.var 4) .nil)))) .nil)))) (.one (.not (.call "_law_same" (.cons (.call "is_code" (.cons (.var 9) .nil)) (.cons (.call "_law_is_code" (.cons (.var 9) .nil)) .nil)))))) (.cons (.ret (.bl false))
 .nil) .nil)
def S_law_3 : MS := (.for_ (.name 10) (.seq (.tup (.cons (.tup (.cons (.int 1) (.cons (.int 1) .nil))) (.cons (.tup (.cons (.int 0) (.cons (.int 0) .nil))) .nil)))) B_law_1)
def S_law_4 : MS := (.iff (.not (.call "_law_same" (.cons (.call "check_alike" (.cons (.var 5) (.cons (.var 5) (.cons (.var 2) (.cons (.var 4) (.cons (.var 9) .nil)))))) (.cons (.cmp .eq (.var 9) (.tup (.cons (.str "alike") .nil))) .nil)))) (.cons (.ret (.bl false))
 .nil) .nil)
def B_law_5 : MSs := (.cons S_law_2
 (.cons S_law_3
 (.cons S_law_4
 .nil)))
def S_law_6 : MS := (.set 7 (.call "_law_junk" (.cons (.var 1) (.cons (.int 4) .nil))))
def S_law_7 : MS := (.freeze 7)
def S_law_8 : MS := (.set 8 (.slc (.tup (.cons (.call "_law_pick" (.cons (.var 1) (.cons (.lst (.cons (.str "blamed") (.cons (.str "parts") (.cons (.str "never") (.cons (.str "alike") (.cons (.str "owed") (.cons (.str "passes") (.cons (.str "from") (.cons (.str "to") (.cons (.str "fun") .nil)))))))))) .nil))) (.cons (.var 7) (.cons (.call "_law_junk" (.cons (.var 1) (.cons (.int 3) .nil))) .nil)))) .nil (.cons (.bin .add (.int 1) (.call "_law_draw" (.cons (.var 1) (.cons (.int 3) .nil)))) .nil)))
def S_law_9 : MS := (.for_ (.name 9) (.seq (.tup (.cons (.var 7) (.cons (.var 8) (.cons (.tup (.cons (.var 7) .nil)) (.cons (.lst (.cons (.var 5) .nil)) (.cons (.tup (.cons (.var 8) (.cons (.var 7) .nil))) (.cons (.tup (.cons (.tup (.cons (.str "later") (.cons (.var 7) .nil))) .nil)) (.cons (.tup (.cons (.tup (.cons (.str "name") (.cons (.var 7) .nil))) (.cons (.tup (.cons (.str "return") .nil)) .nil))) .nil))))))))) B_law_5)
def B_law_10 : MSs := (.cons S_law_6
 (.cons S_law_7
 (.cons S_law_8
 (.cons S_law_9
 .nil))))
def F_law : Fn := ⟨1, ["script", "pool", "one", "casts", "two", "value", "turn", "junk", "named", "odd", "due"],
 (.cons (.set 1 (.alloc (.call "_law_pool" (.cons (.var 0) .nil))))
 (.cons (.set 2 (.call "_law_kind" (.cons (.var 1) (.cons (.int 2) .nil))))
 (.cons (.asg [3, 4] (.call "_law_one_of" (.cons (.call "_law_chain" (.cons (.var 1) (.cons (.var 2) (.cons (.int 2) .nil)))) (.cons (.var 2) .nil))))
 (.cons (.set 5 (.call "_law_all" (.cons (.var 3) (.cons (.var 2) .nil))))
 (.cons (.for_ (.name 6) (.range1 (.int 25)) B_law_10)
 (.cons (.ret (.bl true))
 .nil))))))⟩
def tbl : List DT := [{ i := 3, f := "is_integer", x := "is_integer", nm := "is_integer", qn := "is_integer", fn := F_is_integer },
 { i := 4, f := "is_from", x := "is_from", nm := "is_from", qn := "is_from", fn := F_is_from },
 { i := 15, f := "ground", x := "ground", nm := "ground", qn := "ground", fn := F_ground },
 { i := 33, f := "parts_of_coercions", x := "parts_of_coercions", nm := "parts_of", qn := "parts_of", fn := F_parts_of_coercions },
 { i := 36, f := "is_label", x := "is_label", nm := "is_label", qn := "is_label", fn := F_is_label },
 { i := 37, f := "is_coercion", x := "is_coercion", nm := "is_coercion", qn := "is_coercion", fn := F_is_coercion },
 { i := 38, f := "is_check", x := "is_check", nm := "is_check", qn := "is_check", fn := F_is_check },
 { i := 39, f := "is_tagging", x := "is_tagging", nm := "is_tagging", qn := "is_tagging", fn := F_is_tagging },
 { i := 40, f := "is_head", x := "is_head", nm := "is_head", qn := "is_head", fn := F_is_head },
 { i := 56, f := "is_core", x := "is_core", nm := "is_core", qn := "is_core", fn := F_is_core },
 { i := 82, f := "passes", x := "passes", nm := "passes", qn := "passes", fn := F_passes },
 { i := 83, f := "live_labels", x := "live_labels", nm := "live_labels", qn := "live_labels", fn := F_live_labels },
 { i := 85, f := "is_trial", x := "is_trial", nm := "is_trial", qn := "is_trial", fn := F_is_trial },
 { i := 86, k := some 0, f := "Trials.__init__", x := "Trials", m := some "__init__", nm := "__init__", qn := "Trials.__init__", fn := F_Trials___init__ },
 { i := 88, f := "check_blame", x := "check_blame", nm := "check_blame", qn := "check_blame", fn := F_check_blame },
 { i := 89, f := "parting", x := "parting", nm := "parting", qn := "parting", fn := F_parting },
 { i := 92, f := "alike_paper", x := "alike_paper", nm := "alike_paper", qn := "alike_paper", fn := F_alike_paper },
 { i := 93, f := "check_alike", x := "check_alike", nm := "check_alike", qn := "check_alike", fn := F_check_alike },
 { i := 98, f := "is_row", x := "is_row", nm := "is_row", qn := "is_row", fn := F_is_row },
 { i := 99, f := "has_shape", x := "has_shape", nm := "has_shape", qn := "has_shape", fn := F_has_shape },
 { i := 100, f := "is_code", x := "is_code", nm := "is_code", qn := "is_code", fn := F_is_code },
 { i := 102, f := "_law_same", x := "_law_same", nm := "_law_same", qn := "_law_same", fn := F__law_same },
 { i := 103, f := "_law_pool", x := "_law_pool", nm := "_law_pool", qn := "_law_pool", fn := F__law_pool },
 { i := 104, f := "_law_spread", x := "_law_spread", nm := "_law_spread", qn := "_law_spread", fn := F__law_spread },
 { i := 105, f := "_law_draw", x := "_law_draw", nm := "_law_draw", qn := "_law_draw", fn := F__law_draw },
 { i := 106, f := "_law_pick", x := "_law_pick", nm := "_law_pick", qn := "_law_pick", fn := F__law_pick },
 { i := 107, f := "_law_kind", x := "_law_kind", nm := "_law_kind", qn := "_law_kind", fn := F__law_kind },
 { i := 108, f := "_law_top", x := "_law_top", nm := "_law_top", qn := "_law_top", fn := F__law_top },
 { i := 109, f := "_law_drift", x := "_law_drift", nm := "_law_drift", qn := "_law_drift", fn := F__law_drift },
 { i := 110, f := "_law_chain", x := "_law_chain", nm := "_law_chain", qn := "_law_chain", fn := F__law_chain },
 { i := 111, f := "_law_leads", x := "_law_leads", nm := "_law_leads", qn := "_law_leads", fn := F__law_leads },
 { i := 112, f := "_law_still", x := "_law_still", nm := "_law_still", qn := "_law_still", fn := F__law_still },
 { i := 113, f := "_law_does", x := "_law_does", nm := "_law_does", qn := "_law_does", fn := F__law_does },
 { i := 114, f := "_law_joined", x := "_law_joined", nm := "_law_joined", qn := "_law_joined", fn := F__law_joined },
 { i := 115, f := "_law_all", x := "_law_all", nm := "_law_all", qn := "_law_all", fn := F__law_all },
 { i := 116, f := "_law_within", x := "_law_within", nm := "_law_within", qn := "_law_within", fn := F__law_within },
 { i := 117, f := "_law_owners", x := "_law_owners", nm := "_law_owners", qn := "_law_owners", fn := F__law_owners },
 { i := 118, f := "_law_shut", x := "_law_shut", nm := "_law_shut", qn := "_law_shut", fn := F__law_shut },
 { i := 119, f := "_law_once", x := "_law_once", nm := "_law_once", qn := "_law_once", fn := F__law_once },
 { i := 120, f := "_law_is_co", x := "_law_is_co", nm := "_law_is_co", qn := "_law_is_co", fn := F__law_is_co },
 { i := 121, f := "_law_heads", x := "_law_heads", nm := "_law_heads", qn := "_law_heads", fn := F__law_heads },
 { i := 122, f := "_law_owner", x := "_law_owner", nm := "_law_owner", qn := "_law_owner", fn := F__law_owner },
 { i := 123, f := "_law_is", x := "_law_is", nm := "_law_is", qn := "_law_is", fn := F__law_is },
 { i := 124, f := "_law_is_code", x := "_law_is_code", nm := "_law_is_code", qn := "_law_is_code", fn := F__law_is_code },
 { i := 125, f := "_law_is_row", x := "_law_is_row", nm := "_law_is_row", qn := "_law_is_row", fn := F__law_is_row },
 { i := 126, f := "_law_looks", x := "_law_looks", nm := "_law_looks", qn := "_law_looks", fn := F__law_looks },
 { i := 127, f := "_law_one_of", x := "_law_one_of", nm := "_law_one_of", qn := "_law_one_of", fn := F__law_one_of },
 { i := 128, f := "_law_junk", x := "_law_junk", nm := "_law_junk", qn := "_law_junk", fn := F__law_junk },
 { i := 129, f := "law", x := "law", nm := "law", qn := "law", fn := F_law }]
def cs : List (String × D) := [("ANY", .tup [.str "any"]), ("MATH", .tup [.str "plus", .str "minus", .str "times", .str "less", .str "same"]), ("LARGEST", .int 200), ("MOST_WORD", .int 9999), ("HEADS_coercions", .tup [.str "same", .str "fun", .str "pair"]), ("TAGS", .tup [.str "int", .str "bool", .str "fun", .str "pair"]), ("DEEPEST_trials", .int 80), ("MOST", .int 5000), ("DEEPEST_codes", .int 100)]
def ct : CT := { flds := [("Trials", "label")], makes := [("Trials", "Trials.__init__")], tabs := [("FORMS_cores", [("number", .str "w"), ("truth", .str "t"), ("name", .str "x"), ("fn", .str "xke"), ("rec", .str "xxkke"), ("call", .str "ee"), ("let", .str "xkee"), ("if", .str "eee"), ("pair", .str "ee"), ("first", .str "e"), ("second", .str "e"), ("math", .str "mee"), ("cast", .str "lkke"), ("tell", .str "e")]), ("SIZES", [("word", .int 2), ("truth", .int 2), ("name", .int 2), ("fn", .int 2), ("rec", .int 2), ("call", .int 1), ("tailcall", .int 1), ("bind", .int 1), ("unbind", .int 1), ("unless", .int 2), ("jump", .int 2), ("pair", .int 1), ("first", .int 1), ("second", .int 1), ("math", .int 2), ("tell", .int 1), ("coerce", .int 2), ("later", .int 2), ("return", .int 1)])] }
theorem binds : bindAll tp tbl := ⟨fun _ _ _ _ _ _ us hl => match us, hl with | [_], _ => rfl,
 fun _ _ _ _ _ _ us hl => match us, hl with | [_, _, _], _ => rfl,
 fun _ _ _ _ _ _ us hl => match us, hl with | [_], _ => rfl,
 fun _ _ _ _ _ _ us hl => match us, hl with | [_], _ => rfl,
 fun _ _ _ _ _ _ us hl => match us, hl with | [_, _], _ => rfl,
 fun _ _ _ _ _ _ us hl => match us, hl with | [_, _, _], _ => rfl,
 fun _ _ _ _ _ _ us hl => match us, hl with | [_, _], _ => rfl,
 fun _ _ _ _ _ _ us hl => match us, hl with | [_, _], _ => rfl,
 fun _ _ _ _ _ _ us hl => match us, hl with | [_, _, _], _ => rfl,
 fun _ _ _ _ _ _ us hl => match us, hl with | [_, _], _ => rfl,
 fun _ _ _ _ _ _ us hl => match us, hl with | [_], _ => rfl,
 fun _ _ _ _ _ _ us hl => match us, hl with | [_], _ => rfl,
 fun _ _ _ _ _ _ us hl => match us, hl with | [_, _, _, _], _ => rfl,
 fun _ _ _ _ _ _ us hl => match us, hl with | [_, _], _ => rfl,
 fun _ _ _ _ _ _ us hl => match us, hl with | [_, _, _, _, _], _ => rfl,
 fun _ _ _ _ _ _ us hl => match us, hl with | [_, _, _, _, _], _ => rfl,
 fun _ _ _ _ _ _ us hl => match us, hl with | [_, _, _, _], _ => rfl,
 fun _ _ _ _ _ _ us hl => match us, hl with | [_, _, _, _, _], _ => rfl,
 fun _ _ _ _ _ _ us hl => match us, hl with | [_], _ => rfl,
 fun _ _ _ _ _ _ us hl => match us, hl with | [_, _], _ => rfl,
 fun _ _ _ _ _ _ us hl => match us, hl with | [_], _ => rfl,
 fun _ _ _ _ _ _ us hl => match us, hl with | [_, _], _ => rfl,
 fun _ _ _ _ _ _ us hl => match us, hl with | [_], _ => rfl,
 fun _ _ _ _ _ _ us hl => match us, hl with | [_], _ => rfl,
 fun _ _ _ _ _ _ us hl => match us, hl with | [_, _], _ => rfl,
 fun _ _ _ _ _ _ us hl => match us, hl with | [_, _], _ => rfl,
 fun _ _ _ _ _ _ us hl => match us, hl with | [_, _], _ => rfl,
 fun _ _ _ _ _ _ us hl => match us, hl with | [_], _ => rfl,
 fun _ _ _ _ _ _ us hl => match us, hl with | [_, _, _], _ => rfl,
 fun _ _ _ _ _ _ us hl => match us, hl with | [_, _, _], _ => rfl,
 fun _ _ _ _ _ _ us hl => match us, hl with | [_, _], _ => rfl,
 fun _ _ _ _ _ _ us hl => match us, hl with | [_], _ => rfl,
 fun _ _ _ _ _ _ us hl => match us, hl with | [_], _ => rfl,
 fun _ _ _ _ _ _ us hl => match us, hl with | [_, _], _ => rfl,
 fun _ _ _ _ _ _ us hl => match us, hl with | [_, _], _ => rfl,
 fun _ _ _ _ _ _ us hl => match us, hl with | [_], _ => rfl,
 fun _ _ _ _ _ _ us hl => match us, hl with | [_, _], _ => rfl,
 fun _ _ _ _ _ _ us hl => match us, hl with | [_], _ => rfl,
 fun _ _ _ _ _ _ us hl => match us, hl with | [_], _ => rfl,
 fun _ _ _ _ _ _ us hl => match us, hl with | [_, _, _], _ => rfl,
 fun _ _ _ _ _ _ us hl => match us, hl with | [], _ => rfl,
 fun _ _ _ _ _ _ us hl => match us, hl with | [_, _], _ => rfl,
 fun _ _ _ _ _ _ us hl => match us, hl with | [_, _, _], _ => rfl,
 fun _ _ _ _ _ _ us hl => match us, hl with | [_], _ => rfl,
 fun _ _ _ _ _ _ us hl => match us, hl with | [_, _], _ => rfl,
 fun _ _ _ _ _ _ us hl => match us, hl with | [_, _], _ => rfl,
 fun _ _ _ _ _ _ us hl => match us, hl with | [_, _], _ => rfl,
 fun _ _ _ _ _ _ us hl => match us, hl with | [_, _], _ => rfl,
 fun _ _ _ _ _ _ us hl => match us, hl with | [_], _ => rfl, True.intro⟩
theorem ok : tOk tp tbl cs ct = true := by kernel_rfl
end P3.K91
set_option Elab.async false
set_option linter.all false
set_option maxRecDepth 100000
set_option maxHeartbeats 0
/-! P3Y: the head's run told in three parts, each of which is run alone (one run of all goes over the kernel's memory) -/
noncomputable section
namespace P3
open PySem PySem.W PySem.Calls PyProof.Rows HandSHeadRun
/-- the state behind the top -/
abbrev endS (R : OpenRow) (M : Nat) (w : World) (os : OsState) : Option SharedT := endF (stepQ (denQ tabQ) R.prog w) M R.prog w os
def fragT (s : SharedT) (n : Nat) : PySem.W.Frag := He.frG (noL (getT s)) (asX (getT s) n)
section
variable (R : OpenRow) (q : Program) (M n : Nat) (loose : List PySem.Str) (fa : List He.Fa) (fn : List He.DefD) (cs : List (String × D)) (ts : Ts) (w : World)
def Part1 : Prop := ∀ os : OsState, (endS R M w os).map (fun s => (looksF R.prog (boot_heap w.params) s.abs, fa.all (fun f => f.ok (fragT s n)), extB cs ts (fragT s n), ts.map fun p => He.dicW (fragT s n) (He.ga (fragT s n) (Str.ofString p.1)))) = some (true, true, true, ts.map fun p => some (He.keysIn w.params (p.2.map fun q => Str.ofString q.1)))
def Part2 : Prop := ∀ os : OsState, (endS R M w os).map (fun s => seenQ q loose (importedModules R.prog.main.body) (fun s => xlAt q [] s && recOk R.toRowW.records s) s.abs) = some (openGood q loose)
def Part3 : Prop := ∀ os : OsState, (endS R M w os).map (fun s => (fn.all (fun d => d.ok (fragT s n)), fn.map fun d => He.fnW (fragT s n) d.at_)) = some (true, fn.map He.DefD.val)
end
theorem runEq_of {R : OpenRow} {q : Program} {M n : Nat} {loose : List PySem.Str} {fa : List He.Fa} {fn : List He.DefD} {cs : List (String × D)} {ts : Ts} {w : World} (h1 : Part1 R M n fa cs ts w) (h2 : Part2 R q M loose w) (h3 : Part3 R M n fn w) :
    RunEq R q (hookX n fa fn cs ts) (fun s => obsXG n fa fn cs ts (getT s)) M loose w := fun os => by
  obtain ⟨s, e, v1⟩ := Option.map_eq_some_iff.mp (h1 os)
  obtain ⟨s2, e2, v2⟩ := Option.map_eq_some_iff.mp (h2 os)
  obtain ⟨s3, e3, v3⟩ := Option.map_eq_some_iff.mp (h3 os)
  have z2 : s2 = s := Option.some.inj (e2.symm.trans e)
  have z3 : s3 = s := Option.some.inj (e3.symm.trans e)
  subst z2
  subst z3
  simp only [Prod.mk.injEq] at v1 v3
  obtain ⟨a1, a2, a3, a4⟩ := v1
  obtain ⟨c1, c2⟩ := v3
  refine Option.map_eq_some_iff.mpr ⟨_, e, ?_⟩
  refine Prod.ext a1 (Prod.ext v2 ?_)
  show obsX fa fn cs ts (fragT s3 n) = valX fn ts w
  unfold obsX valX He.obsD He.valD
  rw [a2, a3, a4, c1, c2]
  rfl
end P3
set_option Elab.async false
set_option linter.all false
set_option maxRecDepth 100000
set_option maxHeartbeats 0
namespace P3.K91
open PySem PySem.W PyProof.Rows PySem.Calls
abbrev R : OpenRow := OpenLaw.row PySem.Challenge.rw_halftyped_k91_whole_values_that_are_no_c
abbrev hk : Hook := P3.hookX 3 (P3.tFa tbl ct) (P3.tFn tp tbl) cs ct.tabs
def ob (s : SharedT) : P3.AlX := P3.obsXG 3 (P3.tFa tbl ct) (P3.tFn tp tbl) cs ct.tabs (HandSHeadRun.getT s)
theorem ob_eq (s : SharedT) : ob s = hk.obs s.abs := P3.obsXG_eq (HandSHeadRun.getT_eq s)
def eLaw : P3.DT := tbl.getLast (by decide)
def loose : List PySem.Str := (["is_integer", "is_from", "is_name", "is_kind", "agree", "shared", "ground", "is_piece", "is_expression", "is_still", "coercion_of", "checked", "then", "behind_tag", "parts_of", "height", "is_label", "is_coercion", "is_check", "is_tagging"] : List PySem.Str) ++ (["is_head", "HalfError", "BadTree", "with_name", "bound_in", "must_agree", "kind_of_parts", "kind_of_use", "seen_as", "wanted_kinds", "is_core", "is_core_piece", "core_size", "kind_of_core", "wanted_of_core", "casts_of", "Blame", "worked", "seen", "coerced"] : List PySem.Str) ++ (["part_of", "given_to", "Machine", "first_part", "passes", "live_labels", "tried", "is_trial", "Trials", "head_of", "check_blame", "parting", "parting_checks", "parting_heads", "alike_paper", "check_alike", "is_row", "has_shape", "is_code", "_law_same"] : List PySem.Str) ++ (["_law_pool", "_law_spread", "_law_draw", "_law_pick", "_law_kind", "_law_top", "_law_drift", "_law_chain", "_law_leads", "_law_still", "_law_does", "_law_joined", "_law_all", "_law_within", "_law_owners", "_law_shut", "_law_once", "_law_is_co", "_law_heads", "_law_owner"] : List PySem.Str) ++ (["_law_is", "_law_is_code", "_law_is_row", "_law_looks", "_law_one_of", "_law_junk", "LETTERS", "LONGEST", "ANY", "INT", "BOOL", "PLAIN", "DEEPEST_kinds", "MATH", "LARGEST", "MOST_WORD", "FORMS_trees", "STAY", "SAME", "HEADS_coercions"] : List PySem.Str) ++ (["TAGS", "parts_of_coercions", "RESULTS", "FORMS_cores", "DEEPEST_KIND", "parts_of_cores", "WORDS", "NAME", "TURNS", "DEEPEST_trials", "NOUGHT", "HEADS_trials", "MOST", "DEEPEST_codes", "SIZES"] : List PySem.Str)
theorem part1 (w : World) : P3.Part1 R 8000 3 (P3.tFa tbl ct) cs ct.tabs w :=
  PySem.W.byRow2 "special-get-raises" (P := fun w => P3.Part1 R 8000 3 (P3.tFa tbl ct) cs ct.tabs w) (fun w => by intro os; kernel_rfl) (fun w => by intro os; kernel_rfl) w
theorem part2 (w : World) : P3.Part2 R (view R.prog [129]) 8000 loose w :=
  PySem.W.byRow2 "special-get-raises" (P := fun w => P3.Part2 R (view R.prog [129]) 8000 loose w) (fun w => by intro os; kernel_rfl) (fun w => by intro os; kernel_rfl) w
theorem part3 (w : World) : P3.Part3 R 8000 3 (P3.tFn tp tbl) w :=
  PySem.W.byRow2 "special-get-raises" (P := fun w => P3.Part3 R 8000 3 (P3.tFn tp tbl) w) (fun w => by intro os; kernel_rfl) (fun w => by intro os; kernel_rfl) w
theorem run (w : World) : HandSHeadRun.RunEq R (view R.prog [129]) hk ob 8000 loose w := P3.runEq_of (part1 w) (part2 w) (part3 w)
end P3.K91
set_option Elab.async false
set_option linter.all false
set_option maxRecDepth 100000
set_option maxHeartbeats 0
/-! P3S: a tuple no times -/
namespace P3
open PySem PySem.Spec PyProof.Rows L2
theorem mul_none (l : Addr) (its : Array Value) (k : Nat) (dd : Option Addr) (sl : Array (Option Value)) (u : Tok) (he : its.isEmpty = false) :
    Meets (Builtin.«tuple.__mul__» ⟨[.ref l, .int 0 u], []⟩) (fun _ R s => s.heap.get? l = some { cls := .type "tuple", dict := dd, data := .seq its k, slots := sl } ∧
      R (.ok (.ret (Value.ref s.heap.objs.size))) { s with heap := s.heap.push { cls := Value.type "tuple", data := Data.seq #[] }, toks := s.toks }) :=
  .of_wp fun prog w A R s h => by
    obtain ⟨hh, gg, dr, tk, os⟩ := s
    obtain ⟨hl, h⟩ := h
    have idx := AutoSeq1.idx_int
    have c1 : (its.isEmpty || (0 : Int) == 1) = false := by rw [he]; rfl
    have hsz : (#[] : Array Value).size ≤ sizeLine := by rw [sizeLine_eq]; decide
    wp_walk using wpAny_loadPart' hl
    repeat (first
      | (refine wpAny_ite_false (decide_eq_false (by rw [c1]; exact Bool.false_ne_true)) ?_; wp_walk using wpAny_loadPart' hl)
      | (refine wpAny_ite_false (decide_eq_false (Nat.not_lt.mpr hsz)) ?_; wp_walk using wpAny_loadPart' hl))
    exact ⟨_, rfl, h⟩
/-- t * 0 -/
def rRepZ (K : PySem.W.Frag) : R2 := fun x y H Q => ∃ l xs, x = .ref l ∧ y = .int 0 ∧ SqT K H l xs ∧ xs ≠ [] ∧ ∀ p, H p = none → Q (.ref p) (upd H p (.tup []))
theorem op_repZ {X : Cx} : OpR X (binaryOp .Mult) (rRepZ X.K) := by
  intro pins s σ H x y v u Q I rx ry h
  obtain ⟨l, xs, rfl, rfl, hT, hne, q⟩ := h
  cases rx
  obtain ⟨t, rfl⟩ := ry
  obtain ⟨its, r, ⟨⟨cls, dd, data, sl⟩, ho, hc, k, hd⟩, hs⟩ := I.tuple hT
  simp only at hc hd
  subst hc hd
  have hi : its.toArray.isEmpty = false := by
    cases its with
    | nil => cases r; exact absurd rfl hne
    | cons a b => rfl
  refine wpAny_binaryOp_repeat_ref (T := "tuple") (U := "int") (by decide) ⟨_, ho, rfl⟩ (fun s' => typeIs_int s' 0 t) noFill_tuple_mul F.fills_int_mul F.slot_int_rmul repeat_tuple F.slot_int_index.lookup
    (call_meets F.slot_int_rmul (typeIs_int s 0 t) F.entry_int_rmul (F.args_int_rmul_2 _ _) (int_rmul_tuple 0 t l its.toArray k dd sl)
      ⟨ho, rfl, ⟨_, ho, rfl⟩, call_meets F.slot_tuple_mul ⟨_, ho, rfl⟩ F.entry_tuple_mul (F.args_tuple_mul_2 _ _) (mul_none l its.toArray k dd sl t hi) ⟨ho, ?_⟩⟩)
  refine ⟨.ref s.heap.objs.size, _, I.laid (t' := s.toks) (o := .tup []) (fun b ob e => Heap.get?_push_of_some _ e) (Nat.le_refl _) ?_, rfl, q _ (I.hok.fresh (Nat.le_refl _))⟩
  exact ⟨Nat.zero_le _, [], .nil, IsTup.new _ _⟩
/-! ### list.extend with a tuple or a list -/
theorem ext_tup (l : Addr) (its : Array Value) (n : Nat) (b : Addr) (its2 : Array Value) (k : Nat) (dd : Option Addr) (sl : Array (Option Value)) (h0 : ¬(!its.isEmpty && Builtin.List.listTooLong (its.size + its2.size)) = true) (h1 : its.size ≤ sizeLine) (h2 : its.size + its2.size ≤ sizeLine + 1) :
    Meets (Builtin.«list.extend» ⟨[.ref l, .ref b], []⟩) (fun _ R s => s.heap.get? l = some { cls := .type "list", data := .seq its n } ∧ s.heap.get? b = some { cls := .type "tuple", dict := dd, data := .seq its2 k, slots := sl } ∧
      R (.ok (.ret Value.none)) { s with heap := s.heap.update l (Obj.mapSeq fun x => x ++ its2), toks := s.toks }) :=
  .of_wp fun prog w A R s h => by
    obtain ⟨hh, gg, dr, tk, os⟩ := s
    obtain ⟨hl, hb, h⟩ := h
    have i1 := AutoSeq1.idx_int
    have i2 := AutoSeq1.sub_tuple_tuple
    have i3 := AutoSeq1.sub_list_list
    have i4 := AutoSeq1.sub_tuple_list
    have i5 := AutoSeq1.sub_list_tuple
    have hz : (its ++ its2).size ≤ sizeLine + 1 := by rw [Array.size_append]; exact h2
    wp_walk using (wpAny_updateSeq hl rfl (hz := h1) (_hz' := hz)), wpAny_loadPart' hl, wpAny_loadPart' hb
    exact ⟨_, rfl, h⟩
def rExtA (K : PySem.W.Frag) : V → List V → Hp → VK → Prop := fun x vs H Q => ∃ l b xs zs, x = .ref l ∧ vs = [.ref b] ∧ H l = some (.lst xs) ∧ (SqT K H b zs ∨ Rd H b (.lst zs)) ∧ xs.length + zs.length ≤ sizeLine ∧ Q .non (upd H l (.lst (xs ++ zs)))
theorem mt_extA {X : Cx} : MtM X "list.extend" (rExtA X.K) := by
  intro pins s σ H x vs v us Q I rx rv h
  obtain ⟨l, b, xs, zs, rfl, rfl, hH, hB, hz, q⟩ := h
  cases rx
  obtain ⟨u, rfl, ru⟩ := rv.one
  cases ru
  obtain ⟨z, its, n, r, hl, e⟩ := I.lstM hH
  have fin : ∀ {its2 : List Value}, Vals zs its2 → xs.length = its.length → its.toArray.size + its2.toArray.size ≤ sizeLine ∧ ¬ (!its.toArray.isEmpty && Builtin.List.listTooLong (its.toArray.size + its2.toArray.size)) = true ∧
      EP X pins σ Q .none { s with heap := s.heap.update l (Obj.mapSeq fun x => x ++ its2.toArray), toks := s.toks } := fun {its2} r2 hl => by
    have h2 := r2.length
    have hsz : its.toArray.size + its2.toArray.size ≤ sizeLine := by rw [List.size_toArray, List.size_toArray]; omega
    refine ⟨hsz, by rw [notLongL hsz, Bool.and_false]; exact Bool.false_ne_true, .non, _, I.lset (its' := its ++ its2) hH e (by simp) (r.append r2) (by rw [List.length_append]; omega), rfl, q⟩
  rcases hB with hB | hB
  · obtain ⟨its2, r2, ⟨⟨cls, dd, data, sl⟩, ho, hc, k, hd⟩, _⟩ := I.tuple hB
    simp only at hc hd
    subst hc hd
    obtain ⟨f1, f2, f3⟩ := fin r2 hl
    exact call_meets F.slot_list_extend ⟨_, e, rfl⟩ F.entry_list_extend (F.args_list_extend_2 _ _) (ext_tup l its.toArray n b its2.toArray k dd sl f2 (by rw [List.size_toArray]; omega) (by omega)) ⟨e, ho, f3⟩
  · obtain ⟨z2, its2, n2, r2, e2⟩ := hB.ok I.hok
    obtain ⟨f1, f2, f3⟩ := fin r2 hl
    exact call_meets F.slot_list_extend ⟨_, e, rfl⟩ F.entry_list_extend (F.args_list_extend_2 _ _) (AutoSeq1.list_extend_list_list_0 l its.toArray n b its2.toArray n2 f2 (by rw [List.size_toArray]; omega) (by omega)) ⟨e, e2, f3⟩
/-! ### f(), what is raised is wished for at the caller's slots -/
theorem pe_callSD0 {X : Cx} {CX : CXT} {k : Nat} {f : Addr} {fd : FuncData} {ps : List PySem.Str} {sp : Sp} {dvs : List V} {ds : List Value} {E : L2.St → XK} {x : PySem.Str} {p pos : Pos}
    (F : FnOk X.prog X.w X.K X.mg X.base CX k f fd ps sp) (hr : Room k X.A) (hg : Gl X x) (hm : X.mg x = some (.ref f)) (hk : PySem.W.keepIn X.K (.ref f) = true) (hb : Binds X.K fd ps ds) (hd : Vals dvs ds) (hx : ∀ σ, PassesAt CX X σ (E σ))
    (hdb : (x == ("__debug__" : PySem.Str)) = false) : PE X (.Call (.Name x p) [] [] pos) (tCallSD sp dvs E tNil) := by
  refine ⟨fun pins s σ H Q I h => ?_⟩
  refine wpAny_Call_Name_kw (ld_glob I hg hm ?_ hdb)
  exact PySem.W.callWith_K0 I.kIn hk (run_fnSD (us := []) F hr hb hd (hx σ) I .nil h)
/-! ### x in xs, data of any depth -/
def rInA (K : PySem.W.Frag) (neg : Bool) : R2 := fun x y H Q => ∃ d ds, Dp K H x d ∧ (Dp K H y (.tuple ds) ∨ Dp K H y (.list ds)) ∧ d.canLay0 = true ∧ PyData.canLayAll0 ds = true ∧ d.depth ≤ 100 ∧ Q (.bl (if neg then !(ds.any fun z => PyData.eqv z d) else ds.any fun z => PyData.eqv z d)) H
theorem op_inA {X : Cx} (hu : X.A.units + 150 < cLine) : OpR X (compareOp .In) (rInA X.K false) := by
  intro pins s σ H x y v u Q I rx ry h
  obtain ⟨d, ds, hd, he, sd, se, hm, q⟩ := h
  obtain ⟨as, r1⟩ := Dp.reads I d x v hd rx
  rcases he with he | he
  · obtain ⟨bs, r2⟩ := Dp.reads I (.tuple ds) y u he ry
    exact SeqAt.in_tuple_reads r2 r1 se sd (by omega) ⟨.bl _, H, I, rfl, q⟩
  · obtain ⟨bs, r2⟩ := Dp.reads I (.list ds) y u he ry
    exact SeqAt.in_list_reads r2 r1 se sd (by omega) ⟨.bl _, H, I, rfl, q⟩
theorem op_notInA {X : Cx} (hu : X.A.units + 150 < cLine) : OpR X (compareOp .NotIn) (rInA X.K true) := by
  intro pins s σ H x y v u Q I rx ry h
  obtain ⟨d, ds, hd, he, sd, se, hm, q⟩ := h
  obtain ⟨as, r1⟩ := Dp.reads I d x v hd rx
  rcases he with he | he
  · obtain ⟨bs, r2⟩ := Dp.reads I (.tuple ds) y u he ry
    exact SeqAt.notIn_tuple_reads r2 r1 se sd (by omega) ⟨.bl _, H, I, rfl, q⟩
  · obtain ⟨bs, r2⟩ := Dp.reads I (.list ds) y u he ry
    exact SeqAt.notIn_list_reads r2 r1 se sd (by omega) ⟨.bl _, H, I, rfl, q⟩
end P3
set_option Elab.async false
set_option linter.all false
set_option maxRecDepth 100000
set_option maxHeartbeats 0
/-! P3E: what a run promises of the text -/
namespace P3
open PySem L2
theorem PE.imp {X : Cx} {e : Expr} {t t' : TE} (h : PE X e t) (i : ∀ σ H Q, t' σ H Q → t σ H Q) : PE X e t' := ⟨fun pins s σ H Q I q => h.run pins s σ H Q I (i σ H Q q)⟩
theorem PT.imp {X : Cx} {e : Expr} {t t' : TT} (h : PT X e t) (i : ∀ σ H Q, t' σ H Q → t σ H Q) : PT X e t' := ⟨fun pins s σ H Q I q => h.run pins s σ H Q I (i σ H Q q)⟩
theorem PW.imp {X : Cx} {e : Expr} {t t' : TT} (h : PW X e t) (i : ∀ σ H Q, t' σ H Q → t σ H Q) : PW X e t' := ⟨fun wh pins s σ H Q I q => h.run wh pins s σ H Q I (i σ H Q q)⟩
theorem PA.imp {X : Cx} {e : List Expr} {t t' : TA} (h : PA X e t) (i : ∀ σ H Q, t' σ H Q → t σ H Q) : PA X e t' := ⟨fun pos pins s σ H Q I q => h.run pos pins s σ H Q I (i σ H Q q)⟩
section
variable (K : PySem.W.Frag) (cla : String → Addr)
/-- a result: data, or a new container that nobody else knows -/
def RvR (H0 : Hp) (g0 : Gh) (H : Hp) (g : Gh) (v : V) : Rv → Prop
  | .val d => VR K g v d
  | .own c => ∃ a, v = .ref a ∧ CR K H g a c ∧ g.fz a = none ∧ (∀ w, g.ow w ≠ some a) ∧ (H0 a = none ∨ ∃ w, g0.ow w = some a)
def VRr (_ : Hp) (g : Gh) (v : V) (d : D) : Prop := VR K g v d
def VRsr (_ : Hp) (g : Gh) (v : List V) (d : List D) : Prop := VRs K g v d
/-- an exception: its class, its dict -/
def ExR (H : Hp) (g : Gh) (c : Value) (d : Option Addr) (e : Exn) : Prop := c = .ref (cla e.cls) ∧ match d with
  | none => e.fs = []
  | some a => ∃ fv, H a = some (.xd fv) ∧ FsR K H g 0 fv (e.fs.map fun p => (p.1, .val p.2))
/-- behind a piece that was run from (H0, g0): what is wanted -/
def Aft {α β : Type} (R : Hp → Gh → β → α → Prop) (H0 : Hp) (g0 : Gh) (σ : St) (τ : Tau) (W : WX) (o : Out α) (Q : β → Hp → Prop) : Prop := match o with
  | .stuck => False
  | .ok r m => ∀ v H g, Ext H0 g0 H g → SR K cla H g σ τ m → R H g v r → Q v H
  | .exc e m => ∀ c d H g, Ext H0 g0 H g → SR K cla H g σ τ m → ExR K cla H g c d e → W c d σ H
def tE (W : WX) (ev : Tau → Mem → Out Rv) : TE := fun σ H Q => ∃ g τ m, SR K cla H g σ τ m ∧ Aft K cla (RvR K H g) H g σ τ W (ev τ m) Q
def tV (W : WX) (ev : Tau → Mem → Out D) : TE := fun σ H Q => ∃ g τ m, SR K cla H g σ τ m ∧ Aft K cla (VRr K) H g σ τ W (ev τ m) Q
def tT (W : WX) (ev : Tau → Mem → Out Bool) : TT := fun σ H Q => ∃ g τ m, SR K cla H g σ τ m ∧ Aft K cla (fun _ _ b k => b = k) H g σ τ W (ev τ m) Q
def tVs (W : WX) (ev : Tau → Mem → Out (List D)) : TA := fun σ H Q => ∃ g τ m, SR K cla H g σ τ m ∧ Aft K cla (VRsr K) H g σ τ W (ev τ m) Q
end
section
variable {K : PySem.W.Frag} {cla : String → Addr} {H H0 H1 : Hp} {g g0 g1 : Gh} {σ : St} {τ : Tau} {m m1 : Mem} {W : WX}
theorem RvR.base {v : V} {r : Rv} (h : RvR K H1 g1 H g v r) (E : Ext H0 g0 H1 g1) : RvR K H0 g0 H g v r := by
  cases r with
  | val d => exact h
  | own c =>
    obtain ⟨a, e, c1, z, n, h⟩ := h
    refine ⟨a, e, c1, z, n, ?_⟩
    rcases h with h | ⟨w, h⟩
    · exact .inl (Classical.byContradiction fun q => E.there a q h)
    · exact (E.new w a h).symm
/-- a piece and what comes behind it -/
theorem Aft.bind {α α' β β' : Type} {R : Hp → Gh → β → α → Prop} {R' : Hp → Gh → β' → α' → Prop} {R2 : Hp → Gh → Hp → Gh → β' → α' → Prop} {o : Out α} {k : α → Mem → Out α'} {Q : β' → Hp → Prop} {Q1 : β → Hp → Prop}
    (h : Aft K cla R' H0 g0 σ τ W (o.bind k) Q)
    (hR : ∀ H1 g1, Ext H0 g0 H1 g1 → ∀ H g v r, Ext H1 g1 H g → R2 H1 g1 H g v r → R' H g v r)
    (hk : ∀ a m1 x H1 g1, o = .ok a m1 → Ext H0 g0 H1 g1 → SR K cla H1 g1 σ τ m1 → R H1 g1 x a → Aft K cla (R2 H1 g1) H1 g1 σ τ W (k a m1) Q → Q1 x H1) : Aft K cla R H0 g0 σ τ W o Q1 := by
  cases o with
  | stuck => exact h
  | exc e m => exact h
  | ok a m1 =>
    intro x H1 g1 E S r
    refine hk a m1 x H1 g1 rfl E S r ?_
    have h : Aft K cla R' H0 g0 σ τ W (k a m1) Q := h
    cases e : k a m1 with
    | stuck => rw [e] at h; exact h
    | ok b m2 =>
      rw [e] at h
      exact fun v H g E' S' r' => h v H g (E.trans E') S' (hR H1 g1 E H g v b E' r')
    | exc x m2 =>
      rw [e] at h
      exact fun c d H g E' S' r' => h c d H g (E.trans E') S' r'
theorem Aft.mono {α β : Type} {R R' : Hp → Gh → β → α → Prop} {o : Out α} {Q Q' : β → Hp → Prop} (h : Aft K cla R' H0 g0 σ τ W o Q) (hR : ∀ H g v r, Ext H0 g0 H g → R H g v r → R' H g v r) (hQ : ∀ v H, Q v H → Q' v H) : Aft K cla R H0 g0 σ τ W o Q' := by
  cases o with
  | stuck => exact h
  | exc e m => exact h
  | ok a m => exact fun v H g E S r => hQ v H (h v H g E S (hR H g v a E r))
theorem Ct.toD_R {a : Addr} {c : Ct} {o : HO} (h : CR K H g a c) (e : H a = some o) (le : g.le g1) (f : g1.fz a = some o) : VR K g1 (.ref a) c.toD := by
  cases c with
  | lst xs =>
    obtain ⟨vs, e1, r⟩ := h
    rw [e] at e1; cases e1
    exact .fl (.inl f) (r.mono le)
  | dict kvs =>
    obtain ⟨kv, e1, r⟩ := h
    rw [e] at e1; cases e1
    exact .fd f (r.mono le)
theorem CR.ho {a : Addr} {c : Ct} (h : CR K H g a c) : ∃ o, H a = some o := by
  cases c with
  | lst xs => obtain ⟨vs, e1, _⟩ := h; exact ⟨_, e1⟩
  | dict kvs => obtain ⟨kv, e1, _⟩ := h; exact ⟨_, e1⟩
/-- a new container never changes any more: it is data -/
theorem Aft.freeze {o : Out Rv} {Q : VK} (h : Aft K cla (VRr K) H0 g0 σ τ W (toV o) Q) : Aft K cla (RvR K H0 g0) H0 g0 σ τ W o Q := by
  cases o with
  | stuck => exact h
  | exc e m => exact h
  | ok r m =>
    intro v H g E S rr
    cases r with
    | val d => exact h v H g E S rr
    | own c =>
      obtain ⟨a, rfl, cr, z, n, b⟩ := rr
      obtain ⟨o, e⟩ := cr.ho
      exact h (.ref a) H (g.freeze a o) (E.freeze z b) (S.freeze e n z) (Ct.toD_R cr e (Gh.freeze_le z) Gh.freeze_at)
theorem toV_of {X : Cx} {e : Expr} {ev : Tau → Mem → Out Rv} (h : PE X e (tE X.K cla W ev)) : PE X e (tV X.K cla W fun τ m => toV (ev τ m)) :=
  PE.imp h fun σ H Q ⟨g, τ, m, S, q⟩ => ⟨g, τ, m, S, q.freeze⟩
/-- a test whose value is a bool -/
theorem tT_tB {ev : Tau → Mem → Out D} {σ : St} {H : Hp} {Q : Bool → Hp → Prop} (h : tT K cla W (fun τ m => (ev τ m).bind fun d m1 => opt (asBool d) m1) σ H Q) : tB (tV K cla W ev) σ H Q := by
  obtain ⟨g, τ, m, S, h⟩ := h
  refine ⟨g, τ, m, S, Aft.bind (R2 := fun _ _ _ _ b k => b = k) h (fun _ _ _ _ _ _ _ _ q => q) fun a m1 x H1 g1 e E S1 r h1 => ?_⟩
  cases a with
  | bl b =>
    cases r
    exact ⟨b, rfl, h1 b H1 g1 .refl S1 rfl⟩
  | _ => exact False.elim h1
/-! ### what is looked at -/
/-- data, or a slot's own container -/
def PkR (K : PySem.W.Frag) (σ : St) (τ : Tau) (g : Gh) (v : V) (d : D) : Prop := VR K g v d ∨ ∃ (i : Nat) (c : Ct), τ[i]? = some (some (.own c)) ∧ σ[i]? = some (some v) ∧ d = c.toD
theorem PkR.mono {v : V} {d : D} (h : PkR K σ τ g v d) (le : g.le g1) : PkR K σ τ g1 v d := h.imp (VR.mono le) id
def tPk (K : PySem.W.Frag) (cla : String → Addr) (W : WX) (ev : Tau → Mem → Out D) : TE := fun σ H Q => ∃ g τ m, SR K cla H g σ τ m ∧ Aft K cla (fun _ g v d => PkR K σ τ g v d) H g σ τ W (ev τ m) Q
/-- a list, a tuple that is looked at -/
theorem PkR.lst {v : V} {ds : List D} (h : PkR K σ τ g v (.fl ds)) (S : SR K cla H g σ τ m) : ∃ a vs, v = .ref a ∧ Rd H a (.lst vs) ∧ VRs K g vs ds := by
  rcases h with h | ⟨i, c, e1, e2, e3⟩
  · cases h with
    | fl a r => exact ⟨_, _, rfl, S.lstR a, r⟩
  · obtain ⟨v', e4, a, e5, _, cr⟩ := S.slot i _ e1
    rw [e2] at e4; cases e4
    cases c with
    | lst xs =>
      cases e3
      obtain ⟨vs, e6, r⟩ := cr
      exact ⟨a, vs, e5, .inl e6, r⟩
    | dict kvs => cases e3
theorem PkR.tup {v : V} {ds : List D} (h : PkR K σ τ g v (.tup ds)) (S : SR K cla H g σ τ m) : ∃ a vs, v = .ref a ∧ SqT K H a vs ∧ VRs K g vs ds := by
  rcases h with h | ⟨i, c, e1, e2, e3⟩
  · cases h with
    | tup a r => exact ⟨_, _, rfl, S.tupR a, r⟩
  · cases c <;> cases e3
theorem PkR.int {v : V} {i : Int} (h : PkR K σ τ g v (.int i)) : v = .int i := by
  rcases h with h | ⟨i, c, e1, e2, e3⟩
  · cases h; rfl
  · cases c <;> cases e3
theorem PkR.bl {v : V} {i : Bool} (h : PkR K σ τ g v (.bl i)) : v = .bl i := by
  rcases h with h | ⟨i, c, e1, e2, e3⟩
  · cases h; rfl
  · cases c <;> cases e3
theorem PkR.non {v : V} (h : PkR K σ τ g v .non) : v = .non := by
  rcases h with h | ⟨i, c, e1, e2, e3⟩
  · cases h; rfl
  · cases c <;> cases e3
/-- behind a place of the memory -/
def LkR (K : PySem.W.Frag) (H : Hp) (g : Gh) (v : V) (d : D) : Prop := match d with
  | .fl ds => ∃ a vs, v = .ref a ∧ Rd H a (.lst vs) ∧ VRs K g vs ds
  | .tup ds => ∃ a vs, v = .ref a ∧ SqT K H a vs ∧ VRs K g vs ds ∧ VR K g v (.tup ds)
  | .int i => v = .int i
  | .bl b => v = .bl b
  | .non => v = .non
  | .fd kvs => ∃ a kv, v = .ref a ∧ Rd H a (.dK kv) ∧ KVs K g kv kvs
  | _ => True
theorem PkR.dic {v : V} {kvs : List (D × D)} (h : PkR K σ τ g v (.fd kvs)) (S : SR K cla H g σ τ m) : ∃ a kv, v = .ref a ∧ Rd H a (.dK kv) ∧ KVs K g kv kvs := by
  rcases h with h | ⟨i, c, e1, e2, e3⟩
  · cases h with
    | fd a r => exact ⟨_, _, rfl, .inl (S.fz _ _ a), r⟩
  · obtain ⟨v', e4, a, e5, _, cr⟩ := S.slot i _ e1
    rw [e2] at e4; cases e4
    cases c with
    | dict xs =>
      cases e3
      obtain ⟨vs, e6, r⟩ := cr
      exact ⟨a, vs, e5, .inl e6, r⟩
    | lst kvs => cases e3
theorem PkR.look {v : V} {d : D} (h : PkR K σ τ g v d) (S : SR K cla H g σ τ m) : LkR K H g v (deref m d) := by
  cases d with
  | fl ds => exact h.lst S
  | tup ds =>
    obtain ⟨a, vs, e, q, r⟩ := h.tup S
    refine ⟨a, vs, e, q, r, ?_⟩
    rcases h with h | ⟨i, c, e1, e2, e3⟩
    · exact h
    · cases c <;> cases e3
  | int i => exact h.int
  | bl i => exact h.bl
  | non => exact h.non
  | str s => exact True.intro
  | fd kvs => exact h.dic S
  | fn x => exact True.intro
  | loc l =>
    rcases h with h | ⟨i, c, e1, e2, e3⟩
    · cases h with
      | loc e =>
        rename_i a
        show LkR K H g (.ref a) (match m[l]? with | some (.ct c) => c.toD | _ => .loc l)
        cases q : m[l]? with
        | none => exact True.intro
        | some o =>
          cases o with
          | inst cls fs => exact True.intro
          | ct c =>
            obtain ⟨a', e', cr⟩ := S.obj l _ q
            rw [e] at e'; cases e'
            cases c with
            | lst xs =>
              obtain ⟨vs, e6, r⟩ := cr
              exact ⟨a, vs, rfl, .inl e6, r⟩
            | dict kvs =>
              obtain ⟨vs, e6, r⟩ := cr
              exact ⟨a, vs, rfl, .inl e6, r⟩
    · cases c <;> cases e3
end
end P3
set_option Elab.async false
set_option linter.all false
set_option maxRecDepth 100000
set_option maxHeartbeats 0
/-! P3F: operations by values -/
namespace P3
open PySem L2
theorem lim_le : lim ≤ sizeLine := by rw [sizeLine_eq]; decide
theorem to_line {n : Nat} (h : n ≤ lim) : n ≤ sizeLine := Nat.le_trans h lim_le
/-! ### texts -/
theorem ofString_eq (s t : String) : (Str.ofString s == Str.ofString t) = (s == t) := by
  by_cases h : s = t
  · subst h; simp
  · have h2 : ¬ Str.ofString s = Str.ofString t := fun q => h (ofString_inj q)
    rw [beq_eq_false_iff_ne.mpr h, beq_eq_false_iff_ne.mpr h2]
theorem strOk_of (s : String) : PyData.strOk (Str.ofString s) = true := by
  rw [Str.ofString_eq_toList]
  unfold PyData.strOk
  rw [Array.all_eq_true']
  intro x hx
  have hx : x ∈ s.toList.map Char.toNat := by simpa using hx
  obtain ⟨c, _, rfl⟩ := List.mem_map.mp hx
  have h := c.valid
  simp only [UInt32.isValidChar, Nat.isValidChar] at h
  have : c.toNat = c.val.toNat := rfl
  simp only [decide_eq_true_eq]
  omega
/-! ### data as the library's -/
mutual
def D.py : D → PyData
  | .non => .none
  | .bl b => .bool b
  | .int i => .int i
  | .str s => .str (Str.ofString s)
  | .tup xs => .tuple (D.pys xs)
  | .fl xs => .list (D.pys xs)
  | .fd _ => .none
  | .loc _ => .none
  | .fn _ => .none
def D.pys : List D → List PyData
  | [] => []
  | x :: xs => D.py x :: D.pys xs
end
mutual
theorem D.py_can : ∀ d : D, d.py.canLay0 = true
  | .non => rfl
  | .bl _ => rfl
  | .int _ => rfl
  | .str s => by simpa [D.py, PyData.canLay0] using strOk_of s
  | .tup xs => by simpa [D.py, PyData.canLay0] using D.pys_can xs
  | .fl xs => by simpa [D.py, PyData.canLay0] using D.pys_can xs
  | .fd _ => rfl
  | .loc _ => rfl
  | .fn _ => rfl
theorem D.pys_can : ∀ ds : List D, PyData.canLayAll0 (D.pys ds) = true
  | [] => rfl
  | x :: xs => by simp [D.pys, PyData.canLayAll0, D.py_can x, D.pys_can xs]
end
mutual
theorem D.py_shal : ∀ (n : Nat) (d : D), d.shal n = true → d.py.depth ≤ n
  | _, .non, _ => Nat.zero_le _
  | _, .bl _, _ => Nat.zero_le _
  | _, .int _, _ => Nat.zero_le _
  | _, .str _, _ => Nat.zero_le _
  | _, .fd _, _ => Nat.zero_le _
  | _, .loc _, _ => Nat.zero_le _
  | _, .fn _, _ => Nat.zero_le _
  | 0, .tup _, h => by simp [D.shal] at h
  | 0, .fl _, h => by simp [D.shal] at h
  | n + 1, .tup xs, h => by
    have := D.pys_shal n xs (by simpa [D.shal] using h)
    simp only [D.py, PyData.depth]; omega
  | n + 1, .fl xs, h => by
    have := D.pys_shal n xs (by simpa [D.shal] using h)
    simp only [D.py, PyData.depth]; omega
theorem D.pys_shal : ∀ (n : Nat) (ds : List D), D.shals n ds = true → PyData.depthAll (D.pys ds) ≤ n
  | _, [], _ => by simp [D.pys, PyData.depthAll]
  | n, x :: xs, h => by
    have h : D.shal n x = true ∧ D.shals n xs = true := by simpa [D.shals] using h
    have h1 := D.py_shal n x h.1
    have h2 := D.pys_shal n xs h.2
    simp only [D.pys, PyData.depthAll]
    omega
end
mutual
theorem D.py_eqv : ∀ (a b : D), a.isData = true → b.isData = true → PyData.eqv a.py b.py = a.eqv b
  | .fd _, _, h, _ => by simp [D.isData] at h
  | .loc _, _, h, _ => by simp [D.isData] at h
  | .fn _, _, h, _ => by simp [D.isData] at h
  | .non, b, _, hb => by cases b <;> first | rfl | simp [D.isData] at hb
  | .bl x, b, _, hb => by cases b <;> first | rfl | simp [D.isData] at hb
  | .int x, b, _, hb => by cases b <;> first | rfl | simp [D.isData] at hb
  | .str x, b, _, hb => by
    cases b with
    | str y => simp only [D.py, PyData.eqv, D.eqv]; exact ofString_eq x y
    | fd _ => simp [D.isData] at hb
    | loc _ => simp [D.isData] at hb
    | fn _ => simp [D.isData] at hb
    | _ => rfl
  | .tup xs, b, ha, hb => by
    cases b with
    | tup ys => simp only [D.py, PyData.eqv, D.eqv]; exact D.pys_eqv xs ys (by simpa [D.isData] using ha) (by simpa [D.isData] using hb)
    | fd _ => simp [D.isData] at hb
    | loc _ => simp [D.isData] at hb
    | fn _ => simp [D.isData] at hb
    | _ => rfl
  | .fl xs, b, ha, hb => by
    cases b with
    | fl ys => simp only [D.py, PyData.eqv, D.eqv]; exact D.pys_eqv xs ys (by simpa [D.isData] using ha) (by simpa [D.isData] using hb)
    | fd _ => simp [D.isData] at hb
    | loc _ => simp [D.isData] at hb
    | fn _ => simp [D.isData] at hb
    | _ => rfl
theorem D.pys_eqv : ∀ (a b : List D), D.areData a = true → D.areData b = true → PyData.eqvAll (D.pys a) (D.pys b) = D.eqvs a b
  | [], [], _, _ => rfl
  | [], _ :: _, _, _ => rfl
  | _ :: _, [], _, _ => rfl
  | x :: xs, y :: ys, ha, hb => by
    have ha : x.isData = true ∧ D.areData xs = true := by simpa [D.areData] using ha
    have hb : y.isData = true ∧ D.areData ys = true := by simpa [D.areData] using hb
    simp only [D.pys, PyData.eqvAll, D.eqvs, D.py_eqv x y ha.1 hb.1, D.pys_eqv xs ys ha.2 hb.2]
end
section
variable {K : PySem.W.Frag} {cla : String → Addr} {H : Hp} {g : Gh} {m : Mem}
mutual
theorem VR.dp (S : SH K cla H g m) : ∀ {v : V} {d : D}, VR K g v d → d.isData = true → Dp K H v d.py
  | _, _, .non, _ => .non
  | _, _, .bl b, _ => .bl b
  | _, _, .int i, _ => .int i
  | _, _, .str s, _ => .str _
  | _, _, .tup a r, h => .tup (S.tupR a) (VRs.dp S r (by simpa [D.isData] using h))
  | _, _, .fl a r, h => .lst (.inl (S.lstR a)) (VRs.dp S r (by simpa [D.isData] using h))
  | _, _, .fd a r, h => by simp [D.isData] at h
  | _, _, .loc a, h => by simp [D.isData] at h
  | _, _, .fn a, h => by simp [D.isData] at h
theorem VRs.dp (S : SH K cla H g m) : ∀ {vs : List V} {ds : List D}, VRs K g vs ds → D.areData ds = true → DpAll K H vs (D.pys ds)
  | _, _, .nil, _ => .nil
  | _, _, .cons r t, h => by
    have h := Bool.and_eq_true_iff.mp (show (D.isData _ && D.areData _) = true from h)
    exact .cons (VR.dp S r h.1) (VRs.dp S t h.2)
end
theorem PkR.dp {σ : St} {τ : Tau} {v : V} {d : D} (h : PkR K σ τ g v d) (S : SR K cla H g σ τ m) (hd : d.isData = true) : Dp K H v d.py := by
  rcases h with h | ⟨i, c, e1, e2, e3⟩
  · exact h.dp S.toSH hd
  · obtain ⟨v', e4, a, e5, _, cr⟩ := S.slot i _ e1
    rw [e2] at e4; cases e4
    subst e5
    cases c with
    | lst xs =>
      cases e3
      obtain ⟨vs, e6, r⟩ := cr
      exact .lst (.inl (.inl e6)) (r.dp S.toSH (by simpa [Ct.toD, D.isData] using hd))
    | dict kvs => cases e3; simp [Ct.toD, D.isData] at hd
end
/-! ### + - * // % -/
def rCatL : R2 := fun x y H Q => ∃ l b xs zs, x = .ref l ∧ y = .ref b ∧ Rd H l (.lst xs) ∧ Rd H b (.lst zs) ∧ xs.length + zs.length ≤ sizeLine ∧ ∀ p, H p = none → Q (.ref p) (upd H p (.lst (xs ++ zs)))
theorem Inv.rdL {X : Cx} {pins : List (Addr × Obj)} {σ : St} {H : Hp} {s : Shared} {l : Addr} {xs : List V} (I : Inv X pins σ H s) (hH : Rd H l (.lst xs)) :
    xs.length ≤ sizeLine ∧ ∃ (its : List Value) (n : Nat), Vals xs its ∧ xs.length = its.length ∧ s.heap.get? l = some { cls := .type "list", data := .seq its.toArray n } := by
  obtain ⟨z, its, n, r, e⟩ := hH.ok I.hok
  exact ⟨z, its, n, r, r.length, e⟩
theorem op_catL {X : Cx} : OpR X (binaryOp .Add) rCatL := by
  intro pins s σ H x y v u Q I rx ry h
  obtain ⟨l, b, xs, zs, rfl, rfl, hH, hB, hz, q⟩ := h
  cases rx
  cases ry
  obtain ⟨z, its, n, r, hl, e⟩ := Inv.rdL I hH
  obtain ⟨z2, its2, n2, r2, hl2, e2⟩ := Inv.rdL I hB
  refine PySem.P.add_list e e2 ?_ (by rw [List.size_toArray, List.size_toArray]; omega)
  have ea : its.toArray ++ its2.toArray = (its ++ its2).toArray := by simp
  rw [ea]
  exact ⟨.ref _, _, I.lnew (t' := s.toks) (r.append r2) (by rw [List.length_append]; omega), rfl, q _ I.fresh⟩
def rB (K : PySem.W.Frag) : BOp → R2
  | .add => fun x y H Q => (rI0 (fun i j => .int (i + j)) x y H Q ∨ rCatA K x y H Q) ∨ rCatL x y H Q
  | .sub => rI0 fun i j => .int (i - j)
  | .mul => fun x y H Q => (rI CMul (fun i j => .int (i * j)) x y H Q ∨ rRepT K x y H Q) ∨ rRepZ K x y H Q
  | .fdiv => rI CDiv fun i j => .int (i / j)
  | .mod => rI (fun _ j => 0 < j) fun i j => .int (i % j)
theorem op_B {X : Cx} {op : BOp} {o : Operator} (h : opB op o = true) : OpR X (binaryOp o) (rB X.K op) := by
  cases op <;> cases o <;> first | exact absurd h (by decide) | skip
  · exact (op_add.or op_catA).or op_catL
  · exact op_sub
  · exact (op_mul.or op_repT).or op_repZ
  · exact op_fdiv
  · exact op_mod
theorem small_ok {i : Int} (h : small i = true) : -(2 ^ 64) < i ∧ i < 2 ^ 64 := by
  unfold small at h
  simp only [Bool.and_eq_true, decide_eq_true_eq] at h
  have e : (2 : Int) ^ 64 = 18446744073709551616 := by decide
  omega
section
variable {K : PySem.W.Frag} {cla : String → Addr} {H : Hp} {g : Gh} {m : Mem} {σ : St} {τ : Tau}
theorem VRs.rep {vs : List V} {ds : List D} (h : VRs K g vs ds) : ∀ j : Nat, VRs K g (List.replicate j vs).flatten (List.replicate j ds).flatten
  | 0 => .nil
  | j + 1 => by
    rw [List.replicate_succ, List.replicate_succ, List.flatten_cons, List.flatten_cons]
    exact h.append (VRs.rep h j)
theorem bin_ok {op : BOp} {xd yd : D} {rv : Rv} {x y : V} {Q : VK} (hb : binEv op xd yd = some rv) (S : SR K cla H g σ τ m) (rx : PkR K σ τ g x xd) (ry : PkR K σ τ g y yd)
    (h : ∀ v H' g', Ext H g H' g' → SR K cla H' g' σ τ m → RvR K H g H' g' v rv → Q v H') : rB K op x y H Q := by
  unfold binEv at hb
  split at hb
  · cases hb; cases rx.int; cases ry.int; exact .inl (.inl ⟨_, _, rfl, rfl, h _ H g .refl S (VR.int _)⟩)
  · cases hb; cases rx.int; cases ry.int; exact ⟨_, _, rfl, rfl, h _ H g .refl S (VR.int _)⟩
  · split at hb
    · rename_i c
      cases hb; cases rx.int; cases ry.int
      exact .inl (.inl ⟨_, _, rfl, rfl, by simp only [Bool.or_eq_true] at c; exact c.imp small_ok small_ok, h _ H g .refl S (VR.int _)⟩)
    · cases hb
  · split at hb
    · rename_i c
      cases hb; cases rx.int; cases ry.int
      exact ⟨_, _, rfl, rfl, (show 0 < _ ∧ _ < (1073741824 : Int) by simpa only [Bool.and_eq_true, decide_eq_true_eq] using c), h _ H g .refl S (VR.int _)⟩
    · cases hb
  · split at hb
    · rename_i c
      cases hb; cases rx.int; cases ry.int
      exact ⟨_, _, rfl, rfl, by simpa only [decide_eq_true_eq] using c, h _ H g .refl S (VR.int _)⟩
    · cases hb
  · split at hb
    · rename_i c
      cases hb
      simp only [Bool.and_eq_true, decide_eq_true_eq, Bool.not_eq_true'] at c
      obtain ⟨a, vs, rfl, q1, r1⟩ := rx.tup S
      obtain ⟨b, ws, rfl, q2, r2⟩ := ry.tup S
      refine .inl (.inr ⟨a, b, vs, ws, rfl, rfl, q1, q2, by rw [r1.length, r2.length]; exact to_line c, fun z => ?_, fun _ z => ?_, fun _ z p hp => ?_⟩)
      · subst z
        cases r1
        rcases ry with ry | ⟨i, c', e1, e2, e3⟩
        · exact h _ H g .refl S ry
        · cases c' <;> cases e3
      · subst z
        cases r2
        rcases rx with rx | ⟨i, c', e1, e2, e3⟩
        · exact h _ H g .refl S (show VR K g _ _ by rw [List.append_nil]; exact rx)
        · cases c' <;> cases e3
      · exact h _ _ _ (Ext.newF S hp) (S.newF hp) (VR.tup (.inl Gh.freeze_at) ((r1.append r2).mono (Gh.freeze_le (S.none_fz hp))))
    · cases hb
  · split at hb
    · rename_i xs k c
      cases hb
      simp only [Bool.and_eq_true, Bool.or_eq_true, Bool.not_eq_true', decide_eq_true_eq] at c
      obtain ⟨⟨c1, c2⟩, c3⟩ := c
      obtain ⟨a, vs, rfl, q1, r1⟩ := rx.tup S
      cases ry.int
      have hl := r1.length
      have hne : vs ≠ [] := fun z => by
        subst z
        cases r1
        simp at c1
      rcases c3 with rfl | ⟨c3, c4⟩
      · exact .inr ⟨a, vs, rfl, rfl, q1, hne, fun p hp => h _ _ _ (Ext.newF S hp) (S.newF hp) (VR.tup (.inl Gh.freeze_at) .nil)⟩
      · refine .inl (.inr ⟨a, k, vs, rfl, rfl, q1, hne, c3, c4, by omega, fun p hp => h _ _ _ (Ext.newF S hp) (S.newF hp) (VR.tup (.inl Gh.freeze_at) ?_)⟩)
        exact VRs.rep (r1.mono (Gh.freeze_le (S.none_fz hp))) _
    · cases hb
  · split at hb
    · rename_i c
      cases hb
      simp only [decide_eq_true_eq] at c
      obtain ⟨a, vs, rfl, q1, r1⟩ := rx.lst S
      obtain ⟨b, ws, rfl, q2, r2⟩ := ry.lst S
      refine .inr ⟨a, b, vs, ws, rfl, rfl, q1, q2, by rw [r1.length, r2.length]; exact to_line c, fun p hp => ?_⟩
      exact h _ _ _ (Ext.new' hp) (S.new hp) ⟨p, rfl, ⟨_, upd_same, r1.append r2⟩, S.none_fz hp, S.none_ow hp, .inl hp⟩
    · cases hb
  · cases hb
end
end P3
set_option Elab.async false
set_option linter.all false
set_option maxRecDepth 100000
set_option maxHeartbeats 0
/-! P3G: comparisons, places, parts, built-ins by values -/
namespace P3
open PySem L2
section
variable {X : Cx}
def rEqM (K : PySem.W.Frag) (neg : Bool) : R2 := fun x y H Q => ∃ d e, Dp K H x d ∧ Dp K H y e ∧ d.canLay0 = true ∧ e.canLay0 = true ∧ min d.depth e.depth ≤ deepest ∧ Q (.bl (if neg then !PyData.eqv d e else PyData.eqv d e)) H
theorem op_eqM (hu : X.A.units + deepest < cLine) : OpR X (compareOp .Eq) (rEqM X.K false) := by
  intro pins s σ H x y v u Q I rx ry h
  obtain ⟨d, e, hd, he, sd, se, hm, q⟩ := h
  obtain ⟨as, r1⟩ := Dp.reads I d x v hd rx
  obtain ⟨bs, r2⟩ := Dp.reads I e y u he ry
  exact SeqAt.compareEq_reads r1 r2 sd se (by omega) ⟨.bl _, H, I, rfl, q⟩
theorem op_neM (hu : X.A.units + deepest < cLine) : OpR X (compareOp .NotEq) (rEqM X.K true) := by
  intro pins s σ H x y v u Q I rx ry h
  obtain ⟨d, e, hd, he, sd, se, hm, q⟩ := h
  obtain ⟨as, r1⟩ := Dp.reads I d x v hd rx
  obtain ⟨bs, r2⟩ := Dp.reads I e y u he ry
  exact SeqAt.compareNe_reads r1 r2 sd se (by omega) ⟨.bl _, H, I, rfl, q⟩
/-- a key of a dict -/
def rDIn (neg : Bool) : R2 := fun x y H Q => ∃ a o, y = .ref a ∧ DGet H a x o ∧ Q (.bl (if neg then !o.isSome else o.isSome)) H
theorem op_dIn (hu : X.A.units + deepest < cLine) : OpR X (compareOp .In) (rDIn false) := by
  intro pins s σ H x y v u Q I rx ry h
  obtain ⟨a, o, rfl, g, q⟩ := h
  cases ry
  exact d_in (by have : deepest = 200 := rfl; omega) I g rx fun s' I' => ⟨.bl _, H, I', rfl, q⟩
theorem op_dNotIn (hu : X.A.units + deepest < cLine) : OpR X (compareOp .NotIn) (rDIn true) := by
  intro pins s σ H x y v u Q I rx ry h
  obtain ⟨a, o, rfl, g, q⟩ := h
  cases ry
  exact d_notIn (by have : deepest = 200 := rfl; omega) I g rx fun s' I' => ⟨.bl _, H, I', rfl, q⟩
def rC (K : PySem.W.Frag) : COp → R2
  | .eq => rEqM K false
  | .ne => rEqM K true
  | .lt => rI0 fun i j => .bl (decide (i < j))
  | .le => rI0 fun i j => .bl (decide (i ≤ j))
  | .gt => rI0 fun i j => .bl (decide (j < i))
  | .ge => rI0 fun i j => .bl (decide (j ≤ i))
  | .is_ => fun x y H Q => (y = .non ∧ Q (.bl (decide (x = .non))) H) ∨ rIsB x y H Q
  | .isnt => fun x y H Q => (y = .non ∧ Q (.bl (!decide (x = .non))) H) ∨ rNotB x y H Q
  | .in_ => fun x y H Q => rInA K false x y H Q ∨ rDIn false x y H Q
  | .nin => fun x y H Q => rInA K true x y H Q ∨ rDIn true x y H Q
theorem op_C {op : COp} {o : CmpOp} (hu : X.A.units + deepest < cLine) (h : copB op o = true) : OpR X (compareOp o) (rC X.K op) := by
  cases op <;> cases o <;> first | exact absurd h (by decide) | skip
  · exact op_eqM hu
  · exact op_neM hu
  · exact op_lt
  · exact op_le
  · exact op_gt
  · exact op_ge
  · exact op_isN.or op_isBl
  · exact op_notN.or op_notBl
  · exact (op_inA (by have : deepest = 200 := rfl; omega)).or (op_dIn hu)
  · exact (op_notInA (by have : deepest = 200 := rfl; omega)).or (op_dNotIn hu)
end
section
variable {K : PySem.W.Frag} {cla : String → Addr} {H : Hp} {g : Gh} {m : Mem} {σ : St} {τ : Tau}
theorem flat_V {v : V} {d : D} (r : VR K g v d) (f : d.flat = true) : flatV v = true := by cases r <;> first | rfl | cases f
theorem flat_Vs : ∀ {vs : List V} {ds : List D}, VRs K g vs ds → ds.all D.flat = true → vs.all flatV = true
  | _, _, .nil, _ => rfl
  | _, _, .cons r t, f => by
    simp only [List.all_cons, Bool.and_eq_true] at f ⊢
    exact ⟨flat_V r f.1, flat_Vs t f.2⟩
theorem eqV_of {v w : V} {d e : D} (r : VR K g v d) (q : VR K g w e) (f : d.flat = true) (f' : e.flat = true) : eqV v w = d.eqv e := by
  cases r <;> first | (cases f; done) | skip
  all_goals (cases q <;> first | (cases f'; done) | skip)
  all_goals first | rfl | (show _ = _; simp only [eqV, D.eqv]; done) | skip
  exact ofString_eq _ _
theorem inV_of {v : V} {d : D} (r : VR K g v d) (f : d.flat = true) : ∀ {vs : List V} {ds : List D}, VRs K g vs ds → ds.all D.flat = true → inV v vs = ds.any fun y => y.eqv d
  | _, _, .nil, _ => rfl
  | _, _, .cons q t, h => by
    simp only [List.all_cons, Bool.and_eq_true] at h
    have ih := inV_of r f t h.2
    unfold inV at ih ⊢
    rw [List.any_cons, List.any_cons, eqV_of q r h.1 f, ih]
theorem PkR.flat {v : V} {d : D} (h : PkR K σ τ g v d) (f : d.flat = true) : VR K g v d := by
  rcases h with h | ⟨i, c, e1, e2, e3⟩
  · exact h
  · cases c <;> cases e3 <;> cases f
theorem VR.isNon {v : V} {d : D} (h : VR K g v d) : decide (v = .non) = d.isNon := by cases h <;> rfl
theorem PkR.isNon {v : V} {d : D} (S : SR K cla H g σ τ m) (h : PkR K σ τ g v d) : decide (v = .non) = d.isNon := by
  rcases h with h | ⟨i, c, e1, e2, e3⟩
  · exact h.isNon
  · obtain ⟨v', e4, a, e5, _, cr⟩ := S.slot i _ e1
    rw [e2] at e4; cases e4
    subst e5
    cases c <;> cases e3 <;> rfl
theorem pys_any (a : D) (ha : a.isData = true) : ∀ (ys : List D), D.areData ys = true → ((D.pys ys).any fun z => PyData.eqv z a.py) = ys.any fun y => y.eqv a
  | [], _ => rfl
  | y :: ys, h => by
    have h : y.isData = true ∧ D.areData ys = true := by simpa [D.areData] using h
    simp only [D.pys, List.any_cons, D.py_eqv y a h.1 ha, pys_any a ha ys h.2]
theorem keyR_eqv {k1 k2 : Key} {d1 d2 : D} (h1 : KeyR k1 d1) (h2 : KeyR k2 d2) : d1.eqv d2 = decide (k1 = k2) := by
  cases h1 <;> cases h2
  · rename_i i j
    show (i == j) = _
    by_cases e : i = j
    · subst e; simp
    · simp [e]
  · simp [D.eqv]
  · simp [D.eqv]
  · rename_i s t
    show (s == t) = _
    have := ofString_eq s t
    by_cases e : s = t
    · subst e; simp
    · have e2 : (s == t) = false := by simpa using e
      rw [e2] at this ⊢
      symm
      rw [decide_eq_false_iff_not]
      intro z
      have z : Str.ofString s = Str.ofString t := Sum.inr.inj z
      rw [z] at this
      simp at this
theorem look_ok {kv : List (Key × V)} {kds : List (D × D)} (r : KVs K g kv kds) {k : Key} {kd : D} (hk : KeyR k kd) : match lookK kds kd with
    | some d => ∃ v, valV kv k = some v ∧ VR K g v d
    | none => valV kv k = none := by
  induction kds generalizing kv with
  | nil => cases r; exact valV_nil
  | cons p ps ih =>
    cases r with
    | @cons k1 kd1 v1 d1 _ _ h1 hv t =>
      have e := keyR_eqv h1 hk
      unfold lookK
      rw [List.find?_cons]
      by_cases z : k1 = k
      · rw [decide_eq_true z] at e
        simp only [e, Option.map_some]
        exact ⟨_, valV_pos z, hv⟩
      · rw [decide_eq_false z] at e
        simp only [e]
        rw [valV_neg z]
        exact ih t
theorem key_ok {x : V} {xd : D} (h : isKey xd = true) (r : VR K g x xd) : ∃ k, x = kV k ∧ KeyR k xd := by
  cases r <;> first | (cases h; done) | skip
  · exact ⟨.inl _, rfl, .int _⟩
  · exact ⟨.inr _, rfl, .str _⟩
theorem key_flat {xd : D} (h : isKey xd = true) : xd.flat = true := by cases xd <;> first | rfl | cases h
theorem cmp_ok {op : COp} {xd yd d : D} {x y : V} {Q : VK} (hb : cmpEv op xd yd = some d) (S : SR K cla H g σ τ m) (rx : PkR K σ τ g x xd) (ry : PkR K σ τ g y yd)
    (h : ∀ v, VR K g v d → Q v H) : rC K op x y H Q := by
  have eqc : ∀ neg : Bool, ∀ k, eqD xd yd = some k → Q (.bl (if neg then !k else k)) H → rEqM K neg x y H Q := fun neg k e q => by
    unfold eqD at e
    split at e
    · rename_i c
      simp only [Bool.and_eq_true, Bool.or_eq_true] at c
      cases e
      refine ⟨_, _, rx.dp S c.1.1, ry.dp S c.1.2, xd.py_can, yd.py_can, ?_, ?_⟩
      · rcases c.2 with c2 | c2
        · exact Nat.le_trans (Nat.min_le_left _ _) (D.py_shal _ _ c2)
        · exact Nat.le_trans (Nat.min_le_right _ _) (D.py_shal _ _ c2)
      · rw [D.py_eqv xd yd c.1.1 c.1.2]; exact q
    · cases e
  have inc : ∀ (neg : Bool) (ys : List D), (Dp K H y (.tuple (D.pys ys)) ∨ Dp K H y (.list (D.pys ys))) → (xd.isData && D.areData ys && xd.shal 100) = true → Q (.bl (if neg then !(ys.any fun y => y.eqv xd) else ys.any fun y => y.eqv xd)) H → rInA K neg x y H Q ∨ rDIn neg x y H Q :=
    fun neg ys dy c q => .inl <| by
      simp only [Bool.and_eq_true] at c
      refine ⟨_, D.pys ys, rx.dp S c.1.1, dy, xd.py_can, D.pys_can ys, D.py_shal _ _ c.2, ?_⟩
      rw [pys_any xd c.1.1 ys c.1.2]
      exact q
  have dic : ∀ (neg : Bool) (kvs : List (D × D)), PkR K σ τ g y (.fd kvs) → isKey xd = true → Q (.bl (if neg then !(lookK kvs xd).isSome else (lookK kvs xd).isSome)) H → rInA K neg x y H Q ∨ rDIn neg x y H Q :=
    fun neg kvs ry c q => .inr <| by
      obtain ⟨a, kv, rfl, hR, r⟩ := ry.dic S
      obtain ⟨k, rfl, hk⟩ := key_ok c (rx.flat (key_flat c))
      have l := look_ok r hk
      refine ⟨a, valV kv k, rfl, .inl ⟨kv, k, hR, rfl, rfl⟩, ?_⟩
      cases z : lookK kvs xd with
      | none =>
        rw [z] at l q
        rw [l]; exact q
      | some d =>
        rw [z] at l q
        obtain ⟨v, e, _⟩ := l
        rw [e]; exact q
  unfold cmpEv at hb
  split at hb
  · obtain ⟨k, e, rfl⟩ := Option.map_eq_some_iff.mp hb
    exact eqc false k e (h _ (.bl k))
  · obtain ⟨k, e, rfl⟩ := Option.map_eq_some_iff.mp hb
    exact eqc true k e (h _ (.bl (!k)))
  · cases hb; cases rx.int; cases ry.int; exact ⟨_, _, rfl, rfl, h _ (.bl _)⟩
  · cases hb; cases rx.int; cases ry.int; exact ⟨_, _, rfl, rfl, h _ (.bl _)⟩
  · cases hb; cases rx.int; cases ry.int; exact ⟨_, _, rfl, rfl, h _ (.bl _)⟩
  · cases hb; cases rx.int; cases ry.int; exact ⟨_, _, rfl, rfl, h _ (.bl _)⟩
  · cases hb; cases ry.non
    refine .inl ⟨rfl, ?_⟩
    rw [rx.isNon S]
    exact h _ (.bl _)
  · cases hb; cases ry.non
    refine .inl ⟨rfl, ?_⟩
    rw [rx.isNon S]
    exact h _ (.bl _)
  · cases hb; cases rx.bl; cases ry.bl
    refine .inr ⟨_, _, rfl, rfl, ?_⟩
    rw [← Bool.beq_eq_decide_eq]
    exact h _ (.bl _)
  · cases hb; cases rx.bl; cases ry.bl
    refine .inr ⟨_, _, rfl, rfl, ?_⟩
    rw [← Bool.beq_eq_decide_eq]
    exact h _ (.bl _)
  · split at hb
    · rename_i c
      simp only [Bool.and_eq_true] at c
      cases hb
      exact inc false _ (.inl (ry.dp S (by simpa [D.isData] using c.1.2))) (by simp [c.1.1, c.1.2, c.2]) (h _ (.bl _))
    · cases hb
  · split at hb
    · rename_i c
      simp only [Bool.and_eq_true] at c
      cases hb
      exact inc true _ (.inl (ry.dp S (by simpa [D.isData] using c.1.2))) (by simp [c.1.1, c.1.2, c.2]) (h _ (.bl _))
    · cases hb
  · split at hb
    · rename_i c
      simp only [Bool.and_eq_true] at c
      cases hb
      exact inc false _ (.inr (ry.dp S (by simpa [D.isData] using c.1.2))) (by simp [c.1.1, c.1.2, c.2]) (h _ (.bl _))
    · cases hb
  · split at hb
    · rename_i c
      cases hb
      exact dic false _ ry c (h _ (.bl _))
    · cases hb
  · split at hb
    · rename_i c
      cases hb
      exact dic true _ ry c (h _ (.bl _))
    · cases hb
  · split at hb
    · rename_i c
      simp only [Bool.and_eq_true] at c
      cases hb
      exact inc true _ (.inr (ry.dp S (by simpa [D.isData] using c.1.2))) (by simp [c.1.1, c.1.2, c.2]) (h _ (.bl _))
    · cases hb
  · cases hb
/-! ### places, parts -/
theorem placeOf_ixN (n : Nat) (i : Int) : placeOf n i = ixN n i := rfl
theorem at_of {vs : List V} {ds : List D} {i : Int} {d : D} (r : VRs K g vs ds) (h : D.at ds i = some d) : ∃ v, atI vs i = some v ∧ VR K g v d := by
  unfold D.at at h
  obtain ⟨j, h1, h2⟩ := Option.bind_eq_some_iff.mp h
  obtain ⟨v, e, rv⟩ := r.get h2
  refine ⟨v, ?_, rv⟩
  unfold atI
  rw [r.length, ← placeOf_ixN, h1]
  exact e
/-- a place of a row, a key of a dict -/
def rIxA (K : PySem.W.Frag) : R2 := fun x y H Q => rIx K x y H Q ∨ ∃ a v, x = .ref a ∧ DGet H a y (some v) ∧ Q v H
theorem ix_dic {X : Cx} (hu : X.A.units + deepest < cLine) : IxR X (fun x y H Q => ∃ a v, x = .ref a ∧ DGet H a y (some v) ∧ Q v H) := by
  intro value slice pins s σ H x y v u Q I rx ry h hs
  obtain ⟨a, r, rfl, gd, q⟩ := h
  obtain rfl : v = Value.ref a := rx
  exact PyProof.Rows.tail_any (dict_typeIs I gd) PySem.F.slot_dict_getitem.lookup (d_getItem (by have : deepest = 200 := rfl; omega) I gd ry fun w' s' I' rw' => ⟨r, H, I', rw', q⟩) hs
theorem ix_any {X : Cx} (hu : X.A.units + deepest < cLine) : IxR X (rIxA X.K) := ix_seq.or (ix_dic hu)
theorem idx_ok {xd yd d : D} {x y : V} {Q : VK} (hb : idxEv xd yd = some d) (rx : LkR K H g x xd) (ry : VR K g y yd) (h : ∀ v, VR K g v d → Q v H) : rIxA K x y H Q := by
  unfold idxEv at hb
  split at hb
  · split at hb
    · rename_i kvs c
      obtain ⟨a, kv, rfl, hR, r⟩ := rx
      obtain ⟨k, rfl, hk⟩ := key_ok c ry
      have l := look_ok r hk
      rw [hb] at l
      obtain ⟨v, e, rv⟩ := l
      exact .inr ⟨a, v, rfl, .inl ⟨kv, k, hR, rfl, e.symm⟩, h v rv⟩
    · cases hb
  · split at hb
    · cases ry
      obtain ⟨a, vs, rfl, sq, r, _⟩ := rx
      obtain ⟨v, e, rv⟩ := at_of r hb
      exact .inl (.inr (.inl ⟨a, vs, _, v, rfl, rfl, sq, e, h v rv⟩))
    · cases hb
  · split at hb
    · cases ry
      obtain ⟨a, vs, rfl, sq, r⟩ := rx
      obtain ⟨v, e, rv⟩ := at_of r hb
      exact .inl (.inl ⟨a, vs, _, v, rfl, rfl, .inl sq, e, h v rv⟩)
    · cases hb
  · cases hb
theorem cutAt_sIx (n d : Nat) (o : Option Int) (hd : d ≤ n) : cutAt n d o = HT.sIx n d o := by
  cases o with
  | none => rfl
  | some i =>
    have e := HT.clip_eq i n d
    show (if i < 0 then (i + n).toNat else min i.toNat n) = _
    split at e <;> rename_i c
    · rw [if_pos c]
      have : ((i + n).toNat : Int) = ((HT.sIx n d (some i) : Nat) : Int) := by rw [← e]; omega
      exact Int.ofNat.inj this
    · rw [if_neg c]
      have : ((min i.toNat n : Nat) : Int) = ((HT.sIx n d (some i) : Nat) : Int) := by rw [← e]; omega
      exact Int.ofNat.inj this
theorem cut_of {vs : List V} {ds : List D} (lo hi : Option Int) (r : VRs K g vs ds) : VRs K g (cutV vs lo hi) (cut ds lo hi) := by
  unfold cutV cut
  rw [r.length, cutAt_sIx _ _ lo (Nat.zero_le _), cutAt_sIx _ _ hi (Nat.le_refl _)]
  exact (r.drop _).take _
def rSl (K : PySem.W.Frag) : V → Option Int → Option Int → Hp → VK → Prop := fun x lo hi H Q => rSlA K x lo hi H Q ∨ rSlL K x lo hi H Q
theorem sl_any {X : Cx} : L2.SlR X (rSl X.K) := sl_tupA.or sl_list
theorem slc_ok {xd : D} {lo hi : Option Int} {rv : Rv} {x : V} {Q : VK} (hb : slcEv xd lo hi = some rv) (S : SR K cla H g σ τ m) (rx : LkR K H g x xd)
    (h : ∀ v H' g', Ext H g H' g' → SR K cla H' g' σ τ m → RvR K H g H' g' v rv → Q v H') : rSl K x lo hi H Q := by
  unfold slcEv at hb
  split at hb
  · split at hb
    · rename_i xs c
      cases hb
      obtain ⟨a, vs, rfl, sq, r, rv⟩ := rx
      refine .inl ⟨a, vs, rfl, sq, fun hw => ?_, fun _ p hp => ?_⟩
      · refine h _ H g .refl S (show VR K g _ _ from ?_)
        have hw : HT.sIx vs.length 0 lo = 0 ∧ HT.sIx vs.length vs.length hi = vs.length := hw
        rw [r.length, ← cutAt_sIx _ _ lo (Nat.zero_le _), ← cutAt_sIx _ _ hi (Nat.le_refl _)] at hw
        have e : cut xs lo hi = xs := by unfold cut; rw [hw.1, hw.2]; simp
        rw [e]
        exact rv
      · exact h _ _ _ (Ext.newF S hp) (S.newF hp) (VR.tup (.inl Gh.freeze_at) ((cut_of lo hi r).mono (Gh.freeze_le (S.none_fz hp))))
    · cases hb
  · split at hb
    · cases hb
      obtain ⟨a, vs, rfl, sq, r⟩ := rx
      refine .inr ⟨a, vs, rfl, .inl sq, fun p hp => ?_⟩
      exact h _ _ _ (Ext.new' hp) (S.new hp) ⟨p, rfl, ⟨_, upd_same, cut_of lo hi r⟩, S.none_fz hp, S.none_ow hp, .inl hp⟩
    · cases hb
  · cases hb
/-! ### built-ins -/
theorem bools_of : ∀ {vs : List V} {ds : List D} {bs : List Bool}, VRs K g vs ds → allBool ds = some bs → vs = bs.map V.bl
  | _, _, _, .nil, h => by cases h; rfl
  | _, d :: ds, bs, .cons r t, h => by
    cases d with
    | bl b =>
      obtain ⟨cs, e, rfl⟩ := Option.map_eq_some_iff.mp (show (allBool ds).map (b :: ·) = some bs from h)
      cases r
      rw [bools_of t e]; rfl
    | _ => cases h
theorem ints_all : ∀ ns : List Int, allInt (ns.map D.int) = some ns
  | [] => rfl
  | n :: ns => by
    show (allInt (ns.map D.int)).map (n :: ·) = _
    rw [ints_all ns]; rfl
theorem ints_of : ∀ {vs : List V} {ds : List D} {ns : List Int}, VRs K g vs ds → allInt ds = some ns → vs = ns.map V.int
  | _, _, _, .nil, h => by cases h; rfl
  | _, d :: ds, bs, .cons r t, h => by
    cases d with
    | int b =>
      obtain ⟨cs, e, rfl⟩ := Option.map_eq_some_iff.mp (show (allInt ds).map (b :: ·) = some bs from h)
      cases r
      rw [ints_of t e]; rfl
    | _ => cases h
end
def BF.val : BF → Value
  | .len => .builtin "len"
  | .tuple => .type "tuple"
  | .list => .type "list"
  | .int => .type "int"
  | .all => .builtin "all"
  | .any => .builtin "any"
  | .sum => .builtin "sum"
  | .max => .builtin "max"
def BF.isTy : BF → Bool
  | .tuple => true
  | .list => true
  | .int => true
  | _ => false
theorem BF.boot (f : BF) : bootBuiltins (Str.ofString f.name) = some f.val := by cases f <;> decide +kernel
def rBF (K : PySem.W.Frag) : BF → List V → Hp → VK → Prop
  | .len => fun xs H Q => ∃ p ys, xs = [.ref p] ∧ (SqL K H p ys ∨ SqT K H p ys) ∧ Q (.int ys.length) H
  | .tuple => fun xs H Q => ∃ p ys, xs = [.ref p] ∧ ((SqL K H p ys ∧ ∀ l, H l = none → Q (.ref l) (upd H l (.tup ys))) ∨ (SqT K H p ys ∧ Q (.ref p) H))
  | .list => fun xs H Q => ∃ p ys, xs = [.ref p] ∧ (SqL K H p ys ∨ SqT K H p ys) ∧ ∀ l, H l = none → Q (.ref l) (upd H l (.lst ys))
  | .int => fun xs H Q => (∃ i, xs = [.int i] ∧ Q (.int i) H) ∨ ∃ k, xs = [.bl k] ∧ Q (.int (if k then 1 else 0)) H
  | .all => rAll K
  | .any => rAny K
  | .sum => rSum K
  | .max => rMax K
theorem call_BF {X : Cx} (hc : X.calm = true) (f : BF) : CallR X f.val (rBF X.K f) := by
  cases f
  · exact call_len_seq
  · exact call_tuple_of
  · exact call_list_of
  · exact call_int1
  · exact cr_all hc
  · exact cr_any hc
  · exact cr_sum hc
  · exact cr_max hc
section
variable {K : PySem.W.Frag} {cla : String → Addr} {H : Hp} {g : Gh} {m : Mem} {σ : St} {τ : Tau}
theorem max_of {n : Int} {ns : List Int} {M : Int} (h1 : M ∈ n :: ns) (h2 : ∀ y, y ∈ n :: ns → y ≤ M) : ns.foldl max n = M := by
  have key : ∀ (ns : List Int) (n : Int), (ns.foldl max n ∈ n :: ns) ∧ ∀ y, y ∈ n :: ns → y ≤ ns.foldl max n := by
    intro ns
    induction ns with
    | nil => intro n; exact ⟨List.mem_singleton.mpr rfl, fun y hy => by rw [List.mem_singleton.mp hy]; exact Int.le_refl _⟩
    | cons a r ih =>
      intro n
      obtain ⟨i1, i2⟩ := ih (max n a)
      rw [List.foldl_cons]
      refine ⟨?_, fun y hy => ?_⟩
      · rcases List.mem_cons.mp i1 with e | e
        · rw [e]
          by_cases c : n ≤ a
          · rw [Int.max_eq_right c]; simp
          · rw [Int.max_eq_left (by omega)]; simp
        · exact List.mem_cons_of_mem _ (List.mem_cons_of_mem _ e)
      · have hm := i2 (max n a) List.mem_cons_self
        rcases List.mem_cons.mp hy with e | e
        · rw [e]; have := Int.le_max_left n a; omega
        · rcases List.mem_cons.mp e with e | e
          · rw [e]; have := Int.le_max_right n a; omega
          · exact i2 y (List.mem_cons_of_mem _ e)
  obtain ⟨k1, k2⟩ := key ns n
  have a := h2 _ k1
  have b := k2 _ h1
  omega
theorem bf_ok {f : BF} {xd : D} {rv : Rv} {x : V} {Q : VK} (hb : bfEv f xd = some rv) (S : SR K cla H g σ τ m) (rx : LkR K H g x xd) (hs : ∀ b, xd = .bl b → x = .bl b)
    (h : ∀ v H' g', Ext H g H' g' → SR K cla H' g' σ τ m → RvR K H g H' g' v rv → Q v H') (pt : ∀ ds, xd = .tup ds → f = .tuple → VR K g x xd) : rBF K f [x] H Q := by
  unfold bfEv at hb
  split at hb
  · obtain ⟨n, e, rfl⟩ := Option.map_eq_some_iff.mp hb
    unfold lenEv at e
    split at e
    · cases e
      obtain ⟨a, vs, rfl, sq, r, _⟩ := rx
      exact ⟨a, vs, rfl, .inr sq, by rw [r.length]; exact h _ H g .refl S (VR.int _)⟩
    · cases e
      obtain ⟨a, vs, rfl, sq, r⟩ := rx
      exact ⟨a, vs, rfl, .inl (.inl sq), by rw [r.length]; exact h _ H g .refl S (VR.int _)⟩
    · cases e
  · cases hb
    have rv := pt _ rfl rfl
    obtain ⟨a, vs, rfl, sq, r, _⟩ := rx
    exact ⟨a, vs, rfl, .inr ⟨sq, h _ H g .refl S rv⟩⟩
  · cases hb
    obtain ⟨a, vs, rfl, sq, r⟩ := rx
    exact ⟨a, vs, rfl, .inl ⟨.inl sq, fun p hp => h _ _ _ (Ext.newF S hp) (S.newF hp) (VR.tup (.inl Gh.freeze_at) (r.mono (Gh.freeze_le (S.none_fz hp))))⟩⟩
  · cases hb
    obtain ⟨a, vs, rfl, sq, r, _⟩ := rx
    exact ⟨a, vs, rfl, .inr sq, fun p hp => h _ _ _ (Ext.new' hp) (S.new hp) ⟨p, rfl, ⟨_, upd_same, r⟩, S.none_fz hp, S.none_ow hp, .inl hp⟩⟩
  · cases hb
    obtain ⟨a, vs, rfl, sq, r⟩ := rx
    exact ⟨a, vs, rfl, .inl (.inl sq), fun p hp => h _ _ _ (Ext.new' hp) (S.new hp) ⟨p, rfl, ⟨_, upd_same, r⟩, S.none_fz hp, S.none_ow hp, .inl hp⟩⟩
  · cases hb
    cases (show x = .int _ from rx)
    exact .inl ⟨_, rfl, h _ H g .refl S (VR.int _)⟩
  · cases hb
    cases hs _ rfl
    exact .inr ⟨_, rfl, h _ H g .refl S (VR.int _)⟩
  · obtain ⟨bs, e, rfl⟩ := Option.map_eq_some_iff.mp hb
    obtain ⟨a, vs, rfl, sq, r⟩ := rx
    have ev := bools_of r e
    subst ev
    exact ⟨a, bs, rfl, .inl sq, h _ H g .refl S (VR.bl _)⟩
  · obtain ⟨bs, e, rfl⟩ := Option.map_eq_some_iff.mp hb
    obtain ⟨a, vs, rfl, sq, r⟩ := rx
    have ev := bools_of r e
    subst ev
    exact ⟨a, bs, rfl, .inl sq, h _ H g .refl S (VR.bl _)⟩
  · obtain ⟨bs, e, rfl⟩ := Option.map_eq_some_iff.mp hb
    obtain ⟨a, vs, rfl, sq, r⟩ := rx
    have ev := ints_of r e
    subst ev
    exact ⟨a, bs, rfl, .inl sq, h _ H g .refl S (VR.int _)⟩
  · rename_i xs
    split at hb
    · rename_i n ns e
      cases hb
      obtain ⟨a, vs, rfl, sq, r⟩ := rx
      have ev := ints_of r e
      subst ev
      exact ⟨a, n :: ns, rfl, .inl sq, by simp, fun M h1 h2 => by rw [← max_of h1 h2]; exact h _ H g .refl S (VR.int _)⟩
    · cases hb
  · cases hb
/-! ### sorted(set(..)) of pairs -/
theorem pairs_of : ∀ {vs : List V} {ds : List D} {ps : List (Int × Int)}, VRs K g vs ds → pairsOf ds = some ps → ∃ ks : List (Addr × List Int), vs = ks.map (fun p => V.ref p.1) ∧ ks.map (·.2) = ps.map (fun p => [p.1, p.2]) ∧ (∀ p ∈ ks, VR K g (.ref p.1) (.tup (p.2.map D.int))) ∧ ∀ p ∈ ks, p.2.length = 2 ∧ TS.Bd 1000 p.2
  | _, [], ps, .nil, h => by cases h; exact ⟨[], rfl, rfl, (fun p hp => by cases hp), fun p hp => by cases hp⟩
  | _, d :: ds, ps, .cons r t, h => by
    cases d <;> first | (cases h; done) | skip
    rename_i xs
    match xs, h with
    | [.int x, .int y], h =>
      simp only [pairsOf] at h
      split at h
      · rename_i c
        obtain ⟨qs, e, rfl⟩ := Option.map_eq_some_iff.mp h
        obtain ⟨ks, h1, h2, h3, h4⟩ := pairs_of t e
        cases r with
        | tup a rs =>
          rename_i b vs'
          refine ⟨(b, [x, y]) :: ks, by rw [h1]; rfl, by simp [h2], fun p hp => ?_, fun p hp => ?_⟩
          · rcases List.mem_cons.mp hp with rfl | hp
            · exact .tup a rs
            · exact h3 p hp
          · rcases List.mem_cons.mp hp with rfl | hp
            · refine ⟨rfl, fun m hm => ?_⟩
              simp only [List.mem_cons, List.not_mem_nil, or_false] at hm
              rcases hm with rfl | rfl <;> omega
            · exact h4 p hp
      · cases h
    | [], h => cases h
    | [_], h => simp [pairsOf] at h
    | _ :: _ :: _ :: _, h => simp [pairsOf] at h
    | [.non, _], h => simp [pairsOf] at h
    | [.bl _, _], h => simp [pairsOf] at h
    | [.str _, _], h => simp [pairsOf] at h
    | [.tup _, _], h => simp [pairsOf] at h
    | [.fl _, _], h => simp [pairsOf] at h
    | [.fd _, _], h => simp [pairsOf] at h
    | [.loc _, _], h => simp [pairsOf] at h
    | [.fn _, _], h => simp [pairsOf] at h
    | [.int _, .non], h => simp [pairsOf] at h
    | [.int _, .bl _], h => simp [pairsOf] at h
    | [.int _, .str _], h => simp [pairsOf] at h
    | [.int _, .tup _], h => simp [pairsOf] at h
    | [.int _, .fl _], h => simp [pairsOf] at h
    | [.int _, .fd _], h => simp [pairsOf] at h
    | [.int _, .loc _], h => simp [pairsOf] at h
    | [.int _, .fn _], h => simp [pairsOf] at h
theorem code2 (x y : Int) : TS.code 1000 [x, y] = x * 1000 + y := by
  have e1 : (1000 : Int) ^ 1 = 1000 := by decide
  have e0 : (1000 : Int) ^ 0 = 1 := by decide
  show x * 1000 ^ 1 + (y * 1000 ^ 0 + 0) = _
  rw [e1, e0, Int.mul_one, Int.add_zero]
theorem pairs_rng : ∀ {ds : List D} {ps : List (Int × Int)}, pairsOf ds = some ps → ∀ p ∈ ps, 0 ≤ p.1 ∧ p.1 < 1000 ∧ 0 ≤ p.2 ∧ p.2 < 1000
  | [], ps, h, p, hp => by cases h; cases hp
  | d :: ds, ps, h, p, hp => by
    unfold pairsOf at h
    split at h
    · cases h; cases hp
    · rename_i heq
      cases heq
      split at h
      · rename_i c
        obtain ⟨qs, e, rfl⟩ := Option.map_eq_some_iff.mp h
        rcases List.mem_cons.mp hp with rfl | hp
        · exact c
        · exact pairs_rng e p hp
      · cases h
    · cases h
theorem insP_mem (p q : Int × Int) : ∀ (ps : List (Int × Int)), (∀ r ∈ ps, 0 ≤ r.1 ∧ r.1 < 1000 ∧ 0 ≤ r.2 ∧ r.2 < 1000) → (0 ≤ p.1 ∧ p.1 < 1000 ∧ 0 ≤ p.2 ∧ p.2 < 1000) → (q ∈ insP p ps ↔ q = p ∨ q ∈ ps)
  | [], _, _ => by simp [insP]
  | r :: ps, h, hp => by
    unfold insP
    have hr := h r List.mem_cons_self
    by_cases c1 : ltP p r = true
    · rw [if_pos c1]; simp
    · rw [if_neg c1]
      by_cases c2 : ltP r p = true
      · rw [if_pos c2]
        simp only [List.mem_cons, insP_mem p q ps (fun r hr => h r (List.mem_cons_of_mem _ hr)) hp]
        grind
      · rw [if_neg c2]
        have : p = r := by
          simp only [ltP, decide_eq_true_eq] at c1 c2
          have e1 : p.1 = r.1 := by omega
          have e2 : p.2 = r.2 := by omega
          exact Prod.ext e1 e2
        subst this
        simp
theorem sortP_mem : ∀ (ps : List (Int × Int)), (∀ r ∈ ps, 0 ≤ r.1 ∧ r.1 < 1000 ∧ 0 ≤ r.2 ∧ r.2 < 1000) → ∀ q, q ∈ sortP ps ↔ q ∈ ps
  | [], _, q => by simp [sortP]
  | p :: ps, h, q => by
    have ih := sortP_mem ps (fun r hr => h r (List.mem_cons_of_mem _ hr))
    show q ∈ insP p (sortP ps) ↔ _
    rw [insP_mem p q (sortP ps) (fun r hr => h r (List.mem_cons_of_mem _ ((ih r).mp hr))) (h p List.mem_cons_self), ih q, List.mem_cons]
theorem insP_sorted (p : Int × Int) : ∀ (ps : List (Int × Int)), (∀ r ∈ ps, 0 ≤ r.1 ∧ r.1 < 1000 ∧ 0 ≤ r.2 ∧ r.2 < 1000) → (0 ≤ p.1 ∧ p.1 < 1000 ∧ 0 ≤ p.2 ∧ p.2 < 1000) → ps.Pairwise (fun a b => ltP a b = true) → (insP p ps).Pairwise (fun a b => ltP a b = true)
  | [], _, _, _ => by simp [insP]
  | r :: ps, h, hp, hs => by
    unfold insP
    rw [List.pairwise_cons] at hs
    have h' : ∀ r ∈ ps, 0 ≤ r.1 ∧ r.1 < 1000 ∧ 0 ≤ r.2 ∧ r.2 < 1000 := fun r hr => h r (List.mem_cons_of_mem _ hr)
    by_cases c1 : ltP p r = true
    · rw [if_pos c1]
      refine List.pairwise_cons.mpr ⟨fun q hq => ?_, List.pairwise_cons.mpr hs⟩
      rcases List.mem_cons.mp hq with rfl | hq
      · exact c1
      · have := hs.1 q hq
        simp only [ltP, decide_eq_true_eq] at *
        omega
    · rw [if_neg c1]
      by_cases c2 : ltP r p = true
      · rw [if_pos c2]
        refine List.pairwise_cons.mpr ⟨fun q hq => ?_, insP_sorted p ps h' hp hs.2⟩
        rcases (insP_mem p q ps h' hp).mp hq with rfl | hq
        · exact c2
        · exact hs.1 q hq
      · rw [if_neg c2]
        exact List.pairwise_cons.mpr hs
theorem sortP_sorted : ∀ (ps : List (Int × Int)), (∀ r ∈ ps, 0 ≤ r.1 ∧ r.1 < 1000 ∧ 0 ≤ r.2 ∧ r.2 < 1000) → (sortP ps).Pairwise (fun a b => ltP a b = true)
  | [], _ => by simp [sortP]
  | p :: ps, h => by
    have h' : ∀ r ∈ ps, 0 ≤ r.1 ∧ r.1 < 1000 ∧ 0 ≤ r.2 ∧ r.2 < 1000 := fun r hr => h r (List.mem_cons_of_mem _ hr)
    exact insP_sorted p (sortP ps) (fun r hr => h' r ((sortP_mem ps h' r).mp hr)) (h p List.mem_cons_self) (sortP_sorted ps h')
theorem strict_one {α : Type} {f : α → Int} : ∀ {A B : List α}, A.Pairwise (fun a b => f a < f b) → B.Pairwise (fun a b => f a < f b) → (∀ x, x ∈ A ↔ x ∈ B) → A = B
  | [], [], _, _, _ => rfl
  | [], b :: B, _, _, h => by have := (h b).mpr List.mem_cons_self; cases this
  | a :: A, [], _, _, h => by have := (h a).mp List.mem_cons_self; cases this
  | a :: A, b :: B, hA, hB, h => by
    rw [List.pairwise_cons] at hA hB
    have e : a = b := by
      rcases List.mem_cons.mp ((h a).mp List.mem_cons_self) with e | ha
      · exact e
      · rcases List.mem_cons.mp ((h b).mpr List.mem_cons_self) with e | hb
        · exact e.symm
        · have := hA.1 b hb
          have := hB.1 a ha
          omega
    subst e
    have : A = B := strict_one hA.2 hB.2 fun x => by
      constructor
      · intro hx
        rcases List.mem_cons.mp ((h x).mp (List.mem_cons_of_mem _ hx)) with e | hb
        · have := hA.1 x hx; rw [e] at this; omega
        · exact hb
      · intro hx
        rcases List.mem_cons.mp ((h x).mpr (List.mem_cons_of_mem _ hx)) with e | hb
        · have := hB.1 x hx; rw [e] at this; omega
        · exact hb
    rw [this]
theorem keys_sorted {ds : List D} {ps : List (Int × Int)} (hp : pairsOf ds = some ps) {L' ks : List (Addr × List Int)} (hk : ks.map (·.2) = ps.map (fun p => [p.1, p.2])) (sub : ∀ p ∈ L', p ∈ ks) (all : ∀ p ∈ ks, p.2 ∈ L'.map (·.2)) (nd : (L'.map (·.2)).Nodup)
    (pw : L'.Pairwise (fun q r => TS.code 1000 q.2 ≤ TS.code 1000 r.2)) : L'.map (·.2) = (sortP ps).map fun p => [p.1, p.2] := by
  have rng := pairs_rng hp
  have shape : ∀ k ∈ L'.map (·.2), ∃ p ∈ ps, k = [p.1, p.2] := fun k hk' => by
    obtain ⟨q, hq, rfl⟩ := List.mem_map.mp hk'
    have : q.2 ∈ ks.map (·.2) := List.mem_map_of_mem (sub q hq)
    rw [hk] at this
    obtain ⟨p, hp, e⟩ := List.mem_map.mp this
    exact ⟨p, hp, e.symm⟩
  have pw' : (L'.map (·.2)).Pairwise (fun a b => TS.code 1000 a ≤ TS.code 1000 b) := List.pairwise_map.mpr pw
  refine strict_one (f := TS.code 1000) ?_ ?_ ?_
  · refine List.Pairwise.imp_of_mem (fun {a b} ha hb h => ?_) (pw'.and nd)
    obtain ⟨p, hp, rfl⟩ := shape a ha
    obtain ⟨q, hq, rfl⟩ := shape b hb
    obtain ⟨h1, h2⟩ := h
    rw [code2, code2] at h1 ⊢
    have r1 := rng p hp
    have r2 := rng q hq
    by_cases e : p.1 * 1000 + p.2 = q.1 * 1000 + q.2
    · exact absurd (by rw [show p.1 = q.1 by omega, show p.2 = q.2 by omega]) h2
    · omega
  · rw [List.pairwise_map]
    refine (sortP_sorted ps rng).imp fun {a b} h => ?_
    rw [code2, code2]
    simpa [ltP] using h
  · intro x
    constructor
    · intro hx
      obtain ⟨p, hp, rfl⟩ := shape x hx
      exact List.mem_map.mpr ⟨p, (sortP_mem ps rng p).mpr hp, rfl⟩
    · intro hx
      obtain ⟨p, hp, rfl⟩ := List.mem_map.mp hx
      have hp := (sortP_mem ps rng p).mp hp
      have : [p.1, p.2] ∈ ks.map (·.2) := by rw [hk]; exact List.mem_map.mpr ⟨p, hp, rfl⟩
      obtain ⟨q, hq, e⟩ := List.mem_map.mp this
      rw [← e]
      exact all q hq
theorem rows_VR : ∀ {L : List (Addr × List Int)} {qs : List (Int × Int)}, L.map (·.2) = qs.map (fun p => [p.1, p.2]) → (∀ p ∈ L, VR K g (.ref p.1) (.tup (p.2.map D.int))) → VRs K g (L.map fun q => V.ref q.1) (qs.map pairD)
  | [], [], _, _ => .nil
  | [], _ :: _, h, _ => by cases h
  | _ :: _, [], h, _ => by cases h
  | p :: L, q :: qs, h, hv => by
    simp only [List.map_cons, List.cons.injEq] at h
    have := hv p List.mem_cons_self
    rw [h.1] at this
    exact .cons this (rows_VR h.2 fun p hp => hv p (List.mem_cons_of_mem _ hp))
theorem sset_ok {P : Program} {w : World} {xd : D} {rv : Rv} {x : V} {Q : VK} (hb : ssetEv xd = some rv) (S : SR K cla H g σ τ m) (rx : LkR K H g x xd)
    (h : ∀ v H' g', Ext H g H' g' → SR K cla H' g' σ τ m → RvR K H g H' g' v rv → Q v H') : rSetOfT K P w [x] H fun s H2 => rSortedT K P w [s] H2 Q := by
  unfold ssetEv at hb
  split at hb
  · rename_i ds
    split at hb
    · rename_i hlt
      obtain ⟨ps, e, rfl⟩ := Option.map_eq_some_iff.mp hb
      obtain ⟨a, vs, rfl, sq, r⟩ := rx
      obtain ⟨ks, rfl, k2, k3, k4⟩ := pairs_of r e
      have hsq : ∀ {H' : Hp} {g' : Gh} {τ' : Tau}, SR K cla H' g' σ τ' m → (∀ p ∈ ks, VR K g' (.ref p.1) (.tup (p.2.map D.int))) → ∀ p ∈ ks, SqT K H' p.1 (p.2.map V.int) := fun {H' g' τ'} S' k p hp => by
        obtain ⟨b, ws, eb, sq', rr⟩ := PkR.tup (σ := σ) (τ := τ') (.inl (k p hp)) S'
        cases eb
        rw [ints_of rr (ints_all _)] at sq'
        exact sq'
      have hl : ks.length = ds.length := by have := r.length; rwa [List.length_map] at this
      refine ⟨a, ks, rfl, .inl sq, hsq S k3, by omega, fun b L hb sub all => ?_⟩
      have S2 := S.new (o := SetTO P w b L) hb
      refine ⟨b, L, 2, 1000, rfl, upd_same, fun p hp => hsq S2 k3 p (sub p hp), by omega, fun p hp => k4 p (sub p hp), fun L' p pm nd hlen pw hp => ?_⟩
      have hL := keys_sorted e k2 (fun p hp => sub p (pm.mem_iff.mp hp)) (fun p hp => by
        obtain ⟨q, hq, eq⟩ := List.mem_map.mp (all p hp)
        exact List.mem_map.mpr ⟨q, pm.mem_iff.mpr hq, eq⟩) nd pw
      refine h _ _ _ ((Ext.new' hb).trans (Ext.new' hp)) (S2.new hp) ⟨p, rfl, ⟨_, upd_same, rows_VR hL fun q hq => k3 q (sub q (pm.mem_iff.mp hq))⟩, S2.none_fz hp, S2.none_ow hp, .inl ?_⟩
      by_cases z : p = b
      · rw [z]; exact hb
      · rwa [upd_ne z] at hp
    · cases hb
  · cases hb
/-! ### sorted -/
theorem insD_perm (p : Int × Int) : ∀ ps : List (Int × Int), (insD p ps).Perm (p :: ps)
  | [] => .refl _
  | q :: r => by
    unfold insD
    split
    · exact ((insD_perm p r).cons q).trans (.swap p q r)
    · exact .refl _
theorem sortD_perm : ∀ ps : List (Int × Int), (sortD ps).Perm ps
  | [] => .refl _
  | p :: ps => (insD_perm p (sortD ps)).trans ((sortD_perm ps).cons p)
def cdP (p : Int × Int) : Int := p.1 * 1000 + p.2
theorem insD_sorted (p : Int × Int) : ∀ ps : List (Int × Int), ps.Pairwise (fun a b => cdP a ≤ cdP b) → (insD p ps).Pairwise (fun a b => cdP a ≤ cdP b)
  | [], _ => by simp [insD]
  | q :: r, h => by
    rw [List.pairwise_cons] at h
    unfold insD
    by_cases c : ltP q p = true
    · rw [if_pos c]
      refine List.pairwise_cons.mpr ⟨fun y hy => ?_, insD_sorted p r h.2⟩
      rcases List.mem_cons.mp ((insD_perm p r).mem_iff.mp hy) with rfl | hy
      · simp only [ltP, decide_eq_true_eq] at c; unfold cdP; omega
      · exact h.1 y hy
    · rw [if_neg c]
      have c : cdP p ≤ cdP q := by simp only [ltP, decide_eq_true_eq] at c; unfold cdP; omega
      refine List.pairwise_cons.mpr ⟨fun y hy => ?_, List.pairwise_cons.mpr h⟩
      rcases List.mem_cons.mp hy with rfl | hy
      · exact c
      · exact Int.le_trans c (h.1 y hy)
theorem sortD_sorted : ∀ ps : List (Int × Int), (sortD ps).Pairwise (fun a b => cdP a ≤ cdP b)
  | [] => .nil
  | p :: ps => insD_sorted p _ (sortD_sorted ps)
theorem perm_map {α β : Type} [DecidableEq α] {f : α → β} : ∀ {ys : List β} {ks : List α}, ys.Perm (ks.map f) → ∃ L : List α, L.Perm ks ∧ ys = L.map f
  | [], ks, h => by
    have := h.length_eq
    rw [List.length_map] at this
    cases ks with
    | nil => exact ⟨[], .refl _, rfl⟩
    | cons _ _ => cases this
  | y :: ys, ks, h => by
    obtain ⟨k, hk, e⟩ := List.mem_map.mp (h.mem_iff.mp List.mem_cons_self)
    have p1 : ks.Perm (k :: ks.erase k) := List.perm_cons_erase hk
    have p2 : (y :: ys).Perm (y :: (ks.erase k).map f) := by rw [← e]; rw [← e] at h; exact h.trans (p1.map f)
    obtain ⟨L, hL, e2⟩ := perm_map (List.Perm.cons_inv p2)
    exact ⟨k :: L, (hL.cons k).trans p1.symm, by rw [List.map_cons, e, ← e2]⟩
theorem sorted_one {α : Type} {f : α → Int} : ∀ {A B : List α}, (∀ a ∈ A, ∀ b ∈ A, f a = f b → a = b) → A.Perm B → A.Pairwise (fun a b => f a ≤ f b) → B.Pairwise (fun a b => f a ≤ f b) → A = B
  | [], B, _, p, _, _ => (List.Perm.nil_eq p)
  | a :: A, [], _, p, _, _ => by have := p.length_eq; cases this
  | a :: A, b :: B, inj, p, hA, hB => by
    rw [List.pairwise_cons] at hA hB
    have m1 : b ∈ a :: A := p.mem_iff.mpr List.mem_cons_self
    have m2 : a ∈ b :: B := p.mem_iff.mp List.mem_cons_self
    have e : a = b := by
      refine inj a List.mem_cons_self b m1 ?_
      have l1 : f a ≤ f b := by
        rcases List.mem_cons.mp m1 with z | z
        · rw [z]; exact Int.le_refl _
        · exact hA.1 b z
      have l2 : f b ≤ f a := by
        rcases List.mem_cons.mp m2 with z | z
        · rw [z]; exact Int.le_refl _
        · exact hB.1 a z
      omega
    subst e
    rw [sorted_one (fun x hx y hy => inj x (List.mem_cons_of_mem _ hx) y (List.mem_cons_of_mem _ hy)) (List.Perm.cons_inv p) hA.2 hB.2]
theorem srt_ok {xd : D} {rv : Rv} {x : V} {Q : VK} (hb : srtEv xd = some rv) (S : SR K cla H g σ τ m) (rx : LkR K H g x xd)
    (h : ∀ v H' g', Ext H g H' g' → SR K cla H' g' σ τ m → RvR K H g H' g' v rv → Q v H') : rSortU K 2 1000 [x] H Q := by
  unfold srtEv at hb
  split at hb
  · rename_i ds
    split at hb
    · rename_i hlt
      obtain ⟨ps, e, rfl⟩ := Option.map_eq_some_iff.mp hb
      obtain ⟨a, vs, rfl, sq, r⟩ := rx
      obtain ⟨ks, rfl, k2, k3, k4⟩ := pairs_of r e
      have hsq : ∀ p ∈ ks, SqT K H p.1 (p.2.map V.int) := fun p hp => by
        obtain ⟨b, ws, eb, sq', rr⟩ := PkR.tup (σ := σ) (τ := τ) (.inl (k3 p hp)) S
        cases eb
        rw [ints_of rr (ints_all _)] at sq'
        exact sq'
      have hl : ks.length = ds.length := by have := r.length; rwa [List.length_map] at this
      refine ⟨a, _, rfl, .inl sq, by rw [List.length_map]; omega, fun x hx => ?_, fun ys p hperm hpw hp => ?_⟩
      · obtain ⟨k, hk, rfl⟩ := List.mem_map.mp hx
        exact ⟨k.2, ⟨k.1, rfl, hsq k hk⟩, (k4 k hk).1, (k4 k hk).2⟩
      · obtain ⟨L, hL, rfl⟩ := perm_map hperm
        have rng := pairs_rng e
        have hLp : (L.map (·.2)).Perm (ps.map (fun p => [p.1, p.2])) := by rw [← k2]; exact hL.map _
        have hS : (L.map (·.2)).Pairwise (fun a b => TS.code 1000 a ≤ TS.code 1000 b) := by
          rw [List.pairwise_map] at hpw ⊢
          refine List.Pairwise.imp_of_mem (fun {a b} ha hb h => ?_) hpw
          exact h a.2 b.2 ⟨a.1, rfl, hsq a (hL.mem_iff.mp ha)⟩ ⟨b.1, rfl, hsq b (hL.mem_iff.mp hb)⟩
        have hE : L.map (·.2) = (sortD ps).map fun p => [p.1, p.2] := by
          refine sorted_one (f := TS.code 1000) (fun x hx y hy exy => ?_) (hLp.trans ((sortD_perm ps).map _).symm) hS ?_
          · obtain ⟨p, hp, rfl⟩ := List.mem_map.mp (hLp.mem_iff.mp hx)
            obtain ⟨q, hq, rfl⟩ := List.mem_map.mp (hLp.mem_iff.mp hy)
            rw [code2, code2] at exy
            have r1 := rng p hp
            have r2 := rng q hq
            rw [show p.1 = q.1 by omega, show p.2 = q.2 by omega]
          · rw [List.pairwise_map]
            refine (sortD_sorted ps).imp fun {a b} h => ?_
            rw [code2, code2]
            exact h
        exact h _ _ _ (Ext.new' hp) (S.new hp) ⟨p, rfl, ⟨_, upd_same, rows_VR hE fun q hq => k3 q (hL.mem_iff.mp hq)⟩, S.none_fz hp, S.none_ow hp, .inl hp⟩
    · cases hb
  · cases hb
/-! ### isinstance -/
def tyName : D → String
  | .non => "NoneType"
  | .bl _ => "bool"
  | .int _ => "int"
  | .str _ => "str"
  | .tup _ => "tuple"
  | .fl _ => "list"
  | _ => "dict"
theorem isi_kit {t : IT} {d : D} {b : Bool} (h : isiEv t d = some b) : PySem.W.kitOne K (.type (tyName d)) (.type t.name) = some b := by
  refine kit_ty ?_
  cases d with
  | fd kvs => cases t <;> cases h
  | loc l => cases t <;> cases h
  | fn x => cases t <;> cases h
  | _ => cases t <;> cases h <;> (dsimp only [tyName, IT.name]; decide +kernel)
theorem isi_ty {t : IT} {d : D} {b : Bool} {v : V} (S : SR K cla H g σ τ m) (h : isiEv t d = some b) (r : VR K g v d) : TyX K H v (.type (tyName d)) := by
  cases r with
  | non => exact .base .non
  | bl b => exact .base (.bl b)
  | int i => exact .base (.int i)
  | str s => exact .base (.str _)
  | tup a r =>
    rcases S.tupR a with (e | ⟨o, e⟩) | ⟨o, its, n, e, c, _⟩
    · exact .base (.tup e)
    · exact .fTuple e
    · exact .kTuple e c
  | fl a r =>
    rcases S.lstR a with e | ⟨o, e⟩
    · exact .base (.lst e)
    · exact .base (.frz e)
  | fd a r => cases t <;> cases h
  | loc a => cases t <;> cases h
  | fn a => cases t <;> cases h
end
theorem IT.boot (t : IT) : bootBuiltins (Str.ofString t.name) = some (.type t.name) := by cases t <;> decide +kernel
end P3
set_option Elab.async false
set_option linter.all false
set_option maxRecDepth 100000
set_option maxHeartbeats 0
/-! P3H: expressions -/
namespace P3
open PySem L2
/-! ### shapes -/
theorem isTrue_of {e : Expr} {env : Env} (h : plainTest e = true) (whole : Sem Value) : isTrue e env whole = (do let v ← whole; standAt e.pos; holding [v] (truthy v)) := by
  cases e <;> first | rfl | cases h | skip
  rename_i op _ _
  cases op <;> first | rfl | cases h
theorem star_of {e : Expr} {es : List Expr} {env : Env} (h : plainX e = true) : starEach (e :: es) env = (false, eval e env) :: starEach es env := by
  cases e <;> first | rfl | cases h
theorem stars_of {env : Env} {pos : Pos} : ∀ {es : List Expr}, es.all plainX = true → (backTo pos (starEach es env)).any (·.1) = false
  | [], _ => rfl
  | e :: es, h => by
    simp only [List.all_cons, Bool.and_eq_true] at h
    rw [star_of h.1]
    have ih := stars_of (env := env) (pos := pos) h.2
    unfold backTo at ih ⊢
    rw [List.map_cons, List.any_cons, ih]; rfl
theorem mark_of {e : Expr} {op : CmpOp} (h : plainX e = true) : behindInMarks op e = false := by
  cases e <;> first | rfl | cases h
theorem ix_of {e : Expr} (h : plainX e = true) : PlainIx e := by
  intro o i
  cases e <;> first | rfl | cases h
theorem fold_of {e : Expr} {env : Env} (h : plainX e = true) (x : Value) : foldedSetIterable e env x = pure x := by
  cases e <;> first | rfl | cases h
/-! ### where a piece stands -/
section
variable (K : PySem.W.Frag) (cla : String → Addr)
def AftC (H0 : Hp) (g0 : Gh) (o : Out Rv) (Q : VK) (E : XK) : Prop := match o with
  | .stuck => False
  | .ok r m => ∀ v H g, Ext H0 g0 H g → SH K cla H g m → (∀ i, g.ow (.slot i) = none) → RvR K H0 g0 H g v r → Q v H
  | .exc e m => ∀ c d H g, Ext H0 g0 H g → SH K cla H g m → (∀ i, g.ow (.slot i) = none) → ExR K cla H g c d e → E c d H
/-- what the function f promises with so many calls one in another -/
def spOf (G : GE) (n : Nat) (f : String) (fn : Fn) : Sp := fun vs H Q E => ∃ g m ds, VRs K g vs ds ∧ SH K cla H g m ∧ (∀ i, g.ow (.slot i) = none) ∧ ds.length = fn.params ∧ AftC K cla H g (callN G n f ds m) Q E
end
structure FnG (G : GE) (cla : String → Addr) (P : Program) (w : World) (K : PySem.W.Frag) (mg : Str → Option Value) (base : Heap) (n : Nat) (f : String) (fn : Fn) (a : Addr) : Prop where
  ok : ∃ (fd : FuncData) (ps : List Str), Binds K fd ps [] ∧ FnOk P w K mg base (L2.CX P w) n a fd ps (spOf K cla G n f fn)
/-- a written table of the module -/
def TabOk (K : PySem.W.Frag) (w : World) (mg : Str → Option Value) (x : String) (kvs : List (String × D)) : Prop := ∃ d es n, mg (Str.ofString x) = some (.ref d) ∧ KDict K w d es n ∧ ∀ z : String, match kvs.lookup z with
  | some dv => ∃ u v, PySem.W.nsIn K d (Str.ofString z) = some (some u) ∧ RelV v u ∧ ∀ g, VR K g v dv
  | none => PySem.W.nsIn K d (Str.ofString z) = some none
structure Ctx (G : GE) (cla : String → Addr) (n : Nat) (W : WX) (FN : Tb) (N : List Str) (sc sct : Scope) (X : Cx) : Prop where
  calm : X.calm = true
  room : Room n X.A
  names : X.N = N
  scope : X.env.scope = sc
  nd : N.Nodup
  pass : ∀ σ, PassesAt (L2.CX X.prog X.w) X σ (fun c d H => W c d σ H)
  own : PassesOwn (model X.prog X.w) X.A X.env X.xe
  fn : ∀ f, FN.fn f = true → ∃ fn a, G.fns.lookup f = some fn ∧ X.mg (Str.ofString f) = some (.ref a) ∧ PySem.W.keepIn X.K (.ref a) = true ∧ FnG G cla X.prog X.w X.K X.mg X.base n f fn a
  fa : ∀ c f, FN.fa c f = true → Cls X.K (cla c) ∧ NoAttr X.K (cla c) (Str.ofString f)
  fm : ∀ c m f, FN.fm c m f = true → ∃ fn a, G.fns.lookup f = some fn ∧ Cls X.K (cla c) ∧ Meth X.K (cla c) (Str.ofString m) a ∧ FnG G cla X.prog X.w X.K X.mg X.base n f fn a
  mkr : ∀ c, FN.mkr c = true → ∃ f fn a, G.fns.lookup c = none ∧ G.makes.lookup c = some f ∧ G.fns.lookup f = some fn ∧ X.mg (Str.ofString c) = some (.ref (cla c)) ∧ Mk X.K (cla c) a ∧ ∀ k, n = k + 1 → FnG G cla X.prog X.w X.K X.mg X.base k f fn a
  con : ∀ x d, G.consts.lookup x = some d → ∃ u v, X.mg (Str.ofString x) = some u ∧ RelV v u ∧ ∀ g, VR X.K g v d
  tab : ∀ x, FN.tab x = true → ∃ kvs, G.consts.tab x = some kvs ∧ TabOk X.K X.w X.mg x kvs
  free : ∀ b, b ∈ freeNames → X.mg (Str.ofString b) = none
  tgt : ∀ x, locB sct x = true → Loc X.env.scope x ∧ (X.fn x = true ∨ X.env.scope.names.lookup x = some .local)
section
variable {G : GE} {cla : String → Addr} {n : Nat} {W : WX} {FN : Tb} {N : List Str} {sc sct : Scope} {X : Cx}
theorem vis_of {x : Str} (C : Ctx G cla n W FN N sc sct X) (h : visB sc x = true) : Vis X.env.scope x := by
  rw [C.scope]
  unfold visB at h
  split at h
  · rename_i e; exact .inl e
  · rename_i e; exact .inr (.inl e)
  · rename_i e; exact .inr (.inr e)
  · cases h
theorem gl_of {x : Str} (C : Ctx G cla n W FN N sc sct X) (h : glB sc x = true) : Gl X x := by
  unfold glB at h
  split at h
  · rename_i e
    show X.env.scope.names.lookup x = _
    rw [C.scope]; exact e
  · cases h
theorem plain_of {x : Str} (h : plainName x = true) : (x == ("__debug__" : Str)) = false ∧ (x == ("__classdict__" : Str)) = false ∧ x ≠ ("__name__" : Str) := by
  unfold plainName at h
  simp only [Bool.and_eq_true, Bool.not_eq_true'] at h
  exact ⟨h.1.1, h.1.2, fun z => by have := h.2; rw [z] at this; simp at this⟩
theorem room_deep (C : Ctx G cla n W FN N sc sct X) : X.A.units + deepest < cLine := by
  have := C.room.un
  show X.A.units + 200 < cLine
  omega
end
/-! ### readings -/
section
variable {K : PySem.W.Frag} {cla : String → Addr} {W : WX}
theorem read_bind {α β : Type} {R1 : Hp → Gh → β → α → Prop} {o : Tau → Mem → Out α} {k : α → Tau → Mem → Out Rv} {t : St → Hp → (β → Hp → Prop) → Prop}
    (ht : ∀ σ H Q1, (∃ g τ m, SR K cla H g σ τ m ∧ Aft K cla R1 H g σ τ W (o τ m) Q1) → t σ H Q1) {σ : St} {H : Hp} {Q : VK} {Q1 : β → Hp → Prop}
    (h : tE K cla W (fun τ m => (o τ m).bind fun a m1 => k a τ m1) σ H Q)
    (hk : ∀ a x H1 g1 τ m1, SR K cla H1 g1 σ τ m1 → R1 H1 g1 x a → Aft K cla (RvR K H1 g1) H1 g1 σ τ W (k a τ m1) Q → Q1 x H1) : t σ H Q1 := by
  obtain ⟨g, τ, m, S, h⟩ := h
  exact ht σ H Q1 ⟨g, τ, m, S, Aft.bind (R2 := RvR K) h (fun H1 g1 E H g v r _ rr => rr.base E) fun a m1 x H1 g1 _ _ S1 r1 h1 => hk a x H1 g1 τ m1 S1 r1 h1⟩
end
/-- what is shown of an expression -/
structure Snd (G : GE) (cla : String → Addr) (n : Nat) (W : WX) (X : Cx) (e : Expr) (me : ME) : Prop where
  pe : PE X e (tE X.K cla W (evalE G.consts (callN G n) me))
  pt : PT X e (tT X.K cla W (evalB G.consts (callN G n) me))
  pw : ∀ op vs p, e = .BoolOp op vs p → PW X e (tT X.K cla W (evalB G.consts (callN G n) me))
section
variable {G : GE} {cla : String → Addr} {n : Nat} {W : WX} {X : Cx} {e : Expr} {me : ME}
theorem Snd.plain (h : PE X e (tE X.K cla W (evalE G.consts (callN G n) me))) (hp : plainTest e = true) : Snd G cla n W X e me where
  pe := h
  pt := PT.imp (pt_val (toV_of h) (isTrue_of hp)) fun σ H Q q => tT_tB q
  pw := fun op vs p e => by subst e; cases hp
/-- as data -/
theorem Snd.v (h : Snd G cla n W X e me) : PE X e (tV X.K cla W (fun τ m => toV (evalE G.consts (callN G n) me τ m))) := toV_of h.pe
end
theorem read_v {K : PySem.W.Frag} {cla : String → Addr} {W : WX} {ev : Tau → Mem → Out D} : ∀ σ H Q1, (∃ g τ m, SR K cla H g σ τ m ∧ Aft K cla (VRr K) H g σ τ W (ev τ m) Q1) → tV K cla W ev σ H Q1 := fun _ _ _ h => h
section
variable {G : GE} {cla : String → Addr} {n : Nat} {W : WX} {FN : Tb} {N : List Str} {sc sct : Scope} {X : Cx}
theorem snd_var {i : Nat} {x : Str} {p : Pos} (C : Ctx G cla n W FN N sc sct X) (h : slotB N sc i x = true) : PE X (.Name x p) (tVar i) := by
  unfold slotB at h
  simp only [Bool.and_eq_true, decide_eq_true_eq] at h
  exact pe_var (by rw [C.names]; exact h.1.1) (vis_of C h.1.2) (plain_of h.2).1 (plain_of h.2).2.1
/-- an operand that is just looked at -/
theorem Snd.pk {e : Expr} {me : ME} (C : Ctx G cla n W FN N sc sct X) (hm : mtE FN N sc me e = true) (h : Snd G cla n W X e me) : PE X e (tPk X.K cla W (fun τ m => pk me τ m (evalE G.consts (callN G n) me τ m))) := by
  by_cases hv : ∃ i, me = .var i
  · obtain ⟨i, rfl⟩ := hv
    cases e <;> first | (simp [mtE] at hm; done) | skip
    rename_i x p
    refine PE.imp (snd_var C (by simpa [mtE] using hm)) fun σ H Q ⟨g, τ, m, S, q⟩ => ?_
    cases ht : τ[i]? with
    | none => simp [P3.pk, ME.own?, ht, evalE, toV, Out.bind, Aft] at q
    | some o =>
      cases o with
      | none => simp [P3.pk, ME.own?, ht, evalE, toV, Out.bind, Aft] at q
      | some s =>
        obtain ⟨v, e1, r⟩ := S.slot i s ht
        refine ⟨v, e1, ?_⟩
        cases s with
        | val d =>
          simp only [P3.pk, ME.own?, ht, evalE, toV, Out.bind] at q
          exact q v H g .refl S (.inl r)
        | own c =>
          simp only [P3.pk, ME.own?, ht] at q
          exact q v H g .refl S (.inr ⟨i, c, ht, e1, rfl⟩)
  · have ho : ∀ τ, me.own? τ = none := fun τ => by
      cases me <;> first | rfl | exact absurd ⟨_, rfl⟩ hv
    refine PE.imp h.v fun σ H Q ⟨g, τ, m, S, q⟩ => ⟨g, τ, m, S, ?_⟩
    have e : P3.pk me τ m (evalE G.consts (callN G n) me τ m) = toV (evalE G.consts (callN G n) me τ m) := by unfold P3.pk; rw [ho]
    change Aft _ _ _ _ _ _ _ _ (P3.pk me τ m (evalE G.consts (callN G n) me τ m)) _ at q
    rw [e] at q
    exact q.mono (fun H g v r _ rr => .inl rr) fun _ _ q => q
theorem read_pk {K : PySem.W.Frag} {ev : Tau → Mem → Out D} : ∀ σ H Q1, (∃ g τ m, SR K cla H g σ τ m ∧ Aft K cla (fun _ g v d => PkR K σ τ g v d) H g σ τ W (ev τ m) Q1) → tPk K cla W ev σ H Q1 := fun _ _ _ h => h
/-- two operands that are looked at -/
theorem two_pk {K : PySem.W.Frag} {ta tb : TE} {fa fb : Tau → Mem → Out D} {k : D → D → Mem → Out Rv} {r : R2} {σ : St} {H : Hp} {Q : VK}
    (ha : ∀ σ H Q, tPk K cla W fa σ H Q → ta σ H Q) (hb : ∀ σ H Q, tPk K cla W fb σ H Q → tb σ H Q)
    (h : tE K cla W (fun τ m => (fa τ m).bind fun x m1 => (fb τ m1).bind fun y m2 => k x y m2) σ H Q)
    (hr : ∀ xd yd x y H2 g2 τ m2, SR K cla H2 g2 σ τ m2 → PkR K σ τ g2 x xd → PkR K σ τ g2 y yd → Aft K cla (RvR K H2 g2) H2 g2 σ τ W (k xd yd m2) Q → r x y H2 Q) : tOp r ta tb σ H Q := by
  obtain ⟨g, τ, m, S, h⟩ := h
  refine ha σ H _ ⟨g, τ, m, S, Aft.bind (R2 := RvR K) h (fun H1 g1 E H g v r _ rr => rr.base E) fun xd m1 x H1 g1 e1 E1 S1 r1 h1 => ?_⟩
  refine hb σ H1 _ ⟨g1, τ, m1, S1, Aft.bind (R2 := RvR K) h1 (fun H1 g1 E H g v r _ rr => rr.base E) fun yd m2 y H2 g2 e2 E2 S2 r2 h2 => ?_⟩
  exact hr xd yd x y H2 g2 τ m2 S2 (r1.mono E2.le) r2 h2
end
end P3
set_option Elab.async false
set_option linter.all false
set_option maxRecDepth 100000
set_option maxHeartbeats 0
/-! P3I: each kind of expression -/
namespace P3
open PySem L2
section
variable {G : GE} {cla : String → Addr} {n : Nat} {W : WX} {FN : Tb} {N : List Str} {sc sct : Scope} {X : Cx}
noncomputable abbrev EvE (G : GE) (n : Nat) (me : ME) : Tau → Mem → Out Rv := evalE G.consts (callN G n) me
theorem out_opt {α : Type} {β γ : Type} {K : PySem.W.Frag} {H : Hp} {g : Gh} {σ : St} {τ : Tau} {R : Hp → Gh → γ → β → Prop} {o : Option α} {m : Mem} {k : α → Mem → Out β} {Q : γ → Hp → Prop} (h : Aft K cla R H g σ τ W ((opt o m).bind k) Q) :
    ∃ a, o = some a ∧ Aft K cla R H g σ τ W (k a m) Q := by
  cases o with
  | none => exact False.elim h
  | some a => exact ⟨a, rfl, h⟩
theorem out_opt0 {α γ : Type} {K : PySem.W.Frag} {H : Hp} {g : Gh} {σ : St} {τ : Tau} {R : Hp → Gh → γ → α → Prop} {o : Option α} {m : Mem} {Q : γ → Hp → Prop} (h : Aft K cla R H g σ τ W (opt o m) Q) :
    ∃ a, o = some a ∧ ∀ v H' g', Ext H g H' g' → SR K cla H' g' σ τ m → R H' g' v a → Q v H' := by
  cases o with
  | none => exact False.elim h
  | some a => exact ⟨a, rfl, h⟩
theorem e_const {d : D} {v : V} {e : Expr} {me : ME} (h : PE X e (tC v)) (r : ∀ g, VR X.K g v d) (ev : ∀ τ m, EvE G n me τ m = .ok (.val d) m) : PE X e (tE X.K cla W (EvE G n me)) :=
  PE.imp h fun σ H Q ⟨g, τ, m, S, q⟩ => by
    rw [ev] at q
    exact q v H g .refl S (r g)
theorem e_var {i : Nat} {x : Str} {p : Pos} (C : Ctx G cla n W FN N sc sct X) (h : slotB N sc i x = true) : PE X (.Name x p) (tE X.K cla W (EvE G n (.var i))) :=
  PE.imp (snd_var C h) fun σ H Q ⟨g, τ, m, S, q⟩ => by
    simp only [EvE, evalE] at q
    cases ht : τ[i]? with
    | none => rw [ht] at q; exact q.elim
    | some o =>
      cases o with
      | none => rw [ht] at q; exact q.elim
      | some s =>
        rw [ht] at q
        obtain ⟨v, e1, r⟩ := S.slot i s ht
        cases s with
        | val d => exact ⟨v, e1, q v H g .refl S r⟩
        | own c => exact q.elim
theorem e_glob {y : String} {x : Str} {p : Pos} (C : Ctx G cla n W FN N sc sct X) (h : (decide (Str.ofString y = x) && glB sc x && plainName x) = true) : PE X (.Name x p) (tE X.K cla W (EvE G n (.glob y))) := by
  simp only [Bool.and_eq_true, decide_eq_true_eq] at h
  obtain ⟨⟨e, hg⟩, hp⟩ := h
  refine ⟨fun pins s σ H Q I ⟨g, τ, m, S, q⟩ => ?_⟩
  simp only [EvE, evalE] at q
  cases hc : G.consts.lookup y with
  | none => rw [hc] at q; exact q.elim
  | some d =>
    rw [hc] at q
    obtain ⟨u, v, hm, r, hv⟩ := C.con y d hc
    rw [e] at hm
    exact (pe_glob (gl_of C hg) hm r (plain_of hp).1).run pins s σ H Q I (q v H g .refl S (hv g))
theorem e_bin {op : BOp} {o : Operator} {a b : ME} {x y : Expr} {p : Pos} (C : Ctx G cla n W FN N sc sct X) (ho : opB op o = true) (ma : mtE FN N sc a x = true) (mb : mtE FN N sc b y = true) (ha : Snd G cla n W X x a) (hb : Snd G cla n W X y b) :
    PE X (.BinOp x o y p) (tE X.K cla W (EvE G n (.bin op a b))) :=
  PE.imp (pe_op (op_B ho) (ha.pk C ma) (hb.pk C mb)) fun σ H Q q => by
    refine two_pk (fun _ _ _ h => h) (fun _ _ _ h => h) q fun xd yd x y H2 g2 τ m2 S2 rx ry h2 => ?_
    obtain ⟨rv, e, h3⟩ := out_opt0 h2
    exact bin_ok e S2 rx ry h3
theorem tT_tE {me : ME} {σ : St} {H : Hp} {Q : Bool → Hp → Prop} {K : PySem.W.Frag} (h : tT K cla W (evalB G.consts (callN G n) me) σ H Q) : tE K cla W (EvE G n me) σ H (fun v H' => ∃ k, v = .bl k ∧ Q k H') := by
  obtain ⟨g, τ, m, S, q⟩ := tT_tB (K := K) (cla := cla) (W := W) (ev := fun τ m => toV (evalE G.consts (callN G n) me τ m)) h
  exact ⟨g, τ, m, S, q.freeze⟩
theorem e_cmp {op : COp} {o : CmpOp} {a b : ME} {x y : Expr} {p : Pos} (C : Ctx G cla n W FN N sc sct X) (ho : copB op o = true) (hy : plainX y = true) (ma : mtE FN N sc a x = true) (mb : mtE FN N sc b y = true) (ha : Snd G cla n W X x a) (hb : Snd G cla n W X y b) :
    Snd G cla n W X (.Compare x [o] [y] p) (.cmp op a b) := by
  have conv : ∀ σ H Q, tE X.K cla W (EvE G n (.cmp op a b)) σ H Q → tOp (rC X.K op) (tPk X.K cla W (fun τ m => pk a τ m (evalE G.consts (callN G n) a τ m))) (tPk X.K cla W (fun τ m => pk b τ m (evalE G.consts (callN G n) b τ m))) σ H Q := fun σ H Q q => by
    refine two_pk (fun _ _ _ h => h) (fun _ _ _ h => h) q fun xd yd x y H2 g2 τ m2 S2 rx ry h2 => ?_
    obtain ⟨d, e, h3⟩ := out_opt h2
    exact cmp_ok e S2 rx ry fun v r => h3 v H2 g2 .refl S2 r
  exact ⟨PE.imp (pe_cmpR (op_C (room_deep C) ho) (ha.pk C ma) (hb.pk C mb) (mark_of hy)) conv, PT.imp (pt_cmpR (op_C (room_deep C) ho) (ha.pk C ma) (hb.pk C mb) (mark_of hy)) fun σ H Q q => conv _ _ _ (tT_tE q), fun op vs p e => by cases e⟩
theorem e_chain {o1 o2 : COp} {p1 p2 : CmpOp} {a b c : ME} {x y z : Expr} {p : Pos} (C : Ctx G cla n W FN N sc sct X) (h1 : copB o1 p1 = true) (h2 : copB o2 p2 = true) (hy : plainX y = true) (hz : plainX z = true)
    (ha : Snd G cla n W X x a) (hb : Snd G cla n W X y b) (hc : Snd G cla n W X z c) : Snd G cla n W X (.Compare x [p1, p2] [y, z] p) (.chain o1 o2 a b c) := by
  have conv : ∀ σ H Q, tE X.K cla W (EvE G n (.chain o1 o2 a b c)) σ H Q → tChain (rC X.K o1) (rC X.K o2) (tV X.K cla W (fun τ m => toV (EvE G n a τ m))) (tV X.K cla W (fun τ m => toV (EvE G n b τ m))) (tV X.K cla W (fun τ m => toV (EvE G n c τ m))) σ H Q := fun σ H Q ⟨g, τ, m, S, q⟩ => by
    refine ⟨g, τ, m, S, Aft.bind (R2 := RvR X.K) q (fun H1 g1 E H g v r _ rr => rr.base E) fun xd m1 xv H1 g1 _ E1 S1 r1 q1 => ?_⟩
    refine ⟨g1, τ, m1, S1, Aft.bind (R2 := RvR X.K) q1 (fun H1 g1 E H g v r _ rr => rr.base E) fun yd m2 yv H2 g2 _ E2 S2 r2 q2 => ?_⟩
    obtain ⟨d, e, q3⟩ := out_opt q2
    obtain ⟨k, ek, q4⟩ := out_opt q3
    refine cmp_ok (σ := σ) (τ := τ) e S2 (.inl (VR.mono E2.le r1)) (.inl r2) fun v rv => ?_
    cases d <;> first | (cases ek; done) | skip
    cases ek
    cases rv
    refine ⟨k, rfl, ?_⟩
    cases k with
    | false =>
      rw [if_neg (by decide)]
      exact q4 _ H2 g2 .refl S2 (VR.bl false)
    | true =>
      rw [if_pos rfl]
      refine ⟨g2, τ, m2, S2, Aft.bind (R2 := RvR X.K) q4 (fun H1 g1 E H g v r _ rr => rr.base E) fun zd m3 zv H3 g3 _ E3 S3 r3 q5 => ?_⟩
      obtain ⟨d, e, q6⟩ := out_opt q5
      exact cmp_ok (σ := σ) (τ := τ) e S3 (.inl (VR.mono E3.le r2)) (.inl r3) fun v rv => q6 v H3 g3 .refl S3 rv
  have hm : lastMarks [p1, p2] [y, z] = false := mark_of hz
  exact ⟨PE.imp (pe_chain (op_C (room_deep C) h1) (op_C (room_deep C) h2) ha.v hb.v hc.v hm) conv, PT.imp (pt_chain (op_C (room_deep C) h1) (op_C (room_deep C) h2) ha.v hb.v hc.v hm) fun σ H Q q => conv _ _ _ (tT_tE q), fun op vs p e => by cases e⟩
/-! ### and, or, not, if -/
theorem evalB_eq (me : ME) (τ : Tau) (m : Mem) : evalB G.consts (callN G n) me τ m = (toV (EvE G n me τ m)).bind fun d m1 => opt (asBool d) m1 := rfl
/-- a test of a part, then the rest -/
theorem part_T {β : Type} {α : Type} {K : PySem.W.Frag} {a : ME} {R' : Hp → Gh → β → α → Prop} {R2 : Hp → Gh → Hp → Gh → β → α → Prop} {k : Bool → Mem → Out α} {σ : St} {τ : Tau} {H : Hp} {g : Gh} {m : Mem} {Q : β → Hp → Prop} {Q1 : Bool → Hp → Prop} (S : SR K cla H g σ τ m)
    (h : Aft K cla R' H g σ τ W ((toV (EvE G n a τ m)).bind fun x m1 => (opt (asBool x) m1).bind k) Q)
    (hR : ∀ H1 g1, Ext H g H1 g1 → ∀ H g v r, Ext H1 g1 H g → R2 H1 g1 H g v r → R' H g v r)
    (hk : ∀ b H1 g1 m1, Ext H g H1 g1 → SR K cla H1 g1 σ τ m1 → Aft K cla (R2 H1 g1) H1 g1 σ τ W (k b m1) Q → Q1 b H1) : tT K cla W (evalB G.consts (callN G n) a) σ H Q1 := by
  refine ⟨g, τ, m, S, ?_⟩
  rw [evalB_eq]
  have e : (toV (EvE G n a τ m)).bind (fun x m1 => (opt (asBool x) m1).bind k) = ((toV (EvE G n a τ m)).bind fun d m1 => opt (asBool d) m1).bind k := by
    cases toV (EvE G n a τ m) <;> rfl
  rw [e] at h
  refine Aft.bind (R2 := R2) h hR fun b m1 x H1 g1 _ E1 S1 r1 h1 => ?_
  cases (show x = b from r1)
  exact hk _ H1 g1 m1 E1 S1 h1
theorem e_not {a : ME} {x : Expr} {p : Pos} (ha : Snd G cla n W X x a) : Snd G cla n W X (.UnaryOp .Not x p) (.not a) where
  pe := PE.imp (pe_not ha.v) fun σ H Q ⟨g, τ, m, S, q⟩ => by
    refine ⟨g, τ, m, S, Aft.bind (R2 := RvR X.K) q (fun H1 g1 E H g v r _ rr => rr.base E) fun xd m1 xv H1 g1 _ E1 S1 r1 q1 => ?_⟩
    obtain ⟨k, ek, q4⟩ := out_opt q1
    cases xd <;> first | (cases ek; done) | skip
    cases ek
    cases r1
    exact ⟨_, rfl, q4 _ H1 g1 .refl S1 (VR.bl _)⟩
  pt := PT.imp (pt_not ha.pt) fun σ H Q ⟨g, τ, m, S, q⟩ => by
    have e : evalB G.consts (callN G n) (.not a) τ m = (toV (EvE G n a τ m)).bind fun x m1 => (opt (asBool x) m1).bind fun k m2 => .ok (!k) m2 := by
      rw [evalB_eq]
      show (toV ((toV (EvE G n a τ m)).bind _)).bind _ = _
      cases toV (EvE G n a τ m) with
      | stuck => rfl
      | exc e m => rfl
      | ok d m1 => cases d <;> rfl
    rw [e] at q
    exact part_T (R2 := fun _ _ _ _ b k => b = k) S q (fun _ _ _ _ _ _ _ _ r => r) fun b H1 g1 m1 E1 S1 h1 => h1 _ H1 g1 .refl S1 rfl
  pw := fun op vs p e => by cases e
theorem e_and {a b : ME} {x y : Expr} {r : List Expr} {p : Pos} (ha : Snd G cla n W X x a) (hb : Snd G cla n W X (.BoolOp .And (y :: r) p) b) : Snd G cla n W X (.BoolOp .And (x :: y :: r) p) (.and a b) := by
  have eB : ∀ τ m, evalB G.consts (callN G n) (.and a b) τ m = (toV (EvE G n a τ m)).bind fun x m1 => (opt (asBool x) m1).bind fun k m2 => if k then evalB G.consts (callN G n) b τ m2 else .ok false m2 := fun τ m => by
    rw [evalB_eq]
    show (toV ((toV (EvE G n a τ m)).bind _)).bind _ = _
    cases toV (EvE G n a τ m) with
    | stuck => rfl
    | exc e m => rfl
    | ok d m1 => cases d <;> first | rfl | (rename_i k; cases k <;> rfl)
  have pw : PW X (.BoolOp .And (x :: y :: r) p) (tT X.K cla W (evalB G.consts (callN G n) (.and a b))) := PW.imp (pw_and ha.pt (hb.pw _ _ _ rfl)) fun σ H Q ⟨g, τ, m, S, q⟩ => by
    rw [eB] at q
    refine part_T (R2 := fun _ _ _ _ b k => b = k) S q (fun _ _ _ _ _ _ _ _ r => r) fun k H1 g1 m1 E1 S1 h1 => ?_
    cases k with
    | true => rw [if_pos rfl] at h1 ⊢; exact ⟨g1, τ, m1, S1, h1⟩
    | false => rw [if_neg (by decide)] at h1 ⊢; exact h1 _ H1 g1 .refl S1 rfl
  refine ⟨PE.imp (pe_and ha.v hb.pe) fun σ H Q ⟨g, τ, m, S, q⟩ => ?_, pw.pt, fun op vs p' e => by cases e; exact pw⟩
  refine ⟨g, τ, m, S, Aft.bind (R2 := RvR X.K) q (fun H1 g1 E H g v r _ rr => rr.base E) fun xd m1 xv H1 g1 _ E1 S1 r1 q1 => ?_⟩
  obtain ⟨k, ek, q4⟩ := out_opt q1
  cases xd <;> first | (cases ek; done) | skip
  cases ek
  cases r1
  refine ⟨_, rfl, ?_⟩
  cases k with
  | true => rw [if_pos rfl] at q4 ⊢; exact ⟨g1, τ, m1, S1, q4⟩
  | false => rw [if_neg (by decide)] at q4 ⊢; exact q4 _ H1 g1 .refl S1 (VR.bl _)
theorem e_or {a b : ME} {x y : Expr} {r : List Expr} {p : Pos} (ha : Snd G cla n W X x a) (hb : Snd G cla n W X (.BoolOp .Or (y :: r) p) b) : Snd G cla n W X (.BoolOp .Or (x :: y :: r) p) (.or a b) := by
  have eB : ∀ τ m, evalB G.consts (callN G n) (.or a b) τ m = (toV (EvE G n a τ m)).bind fun x m1 => (opt (asBool x) m1).bind fun k m2 => if k then .ok true m2 else evalB G.consts (callN G n) b τ m2 := fun τ m => by
    rw [evalB_eq]
    show (toV ((toV (EvE G n a τ m)).bind _)).bind _ = _
    cases toV (EvE G n a τ m) with
    | stuck => rfl
    | exc e m => rfl
    | ok d m1 => cases d <;> first | rfl | (rename_i k; cases k <;> rfl)
  have pw : PW X (.BoolOp .Or (x :: y :: r) p) (tT X.K cla W (evalB G.consts (callN G n) (.or a b))) := PW.imp (pw_or ha.pt (hb.pw _ _ _ rfl)) fun σ H Q ⟨g, τ, m, S, q⟩ => by
    rw [eB] at q
    refine part_T (R2 := fun _ _ _ _ b k => b = k) S q (fun _ _ _ _ _ _ _ _ r => r) fun k H1 g1 m1 E1 S1 h1 => ?_
    cases k with
    | true => rw [if_pos rfl] at h1 ⊢; exact h1 _ H1 g1 .refl S1 rfl
    | false => rw [if_neg (by decide)] at h1 ⊢; exact ⟨g1, τ, m1, S1, h1⟩
  refine ⟨PE.imp (pe_or ha.v hb.pe) fun σ H Q ⟨g, τ, m, S, q⟩ => ?_, pw.pt, fun op vs p' e => by cases e; exact pw⟩
  refine ⟨g, τ, m, S, Aft.bind (R2 := RvR X.K) q (fun H1 g1 E H g v r _ rr => rr.base E) fun xd m1 xv H1 g1 _ E1 S1 r1 q1 => ?_⟩
  obtain ⟨k, ek, q4⟩ := out_opt q1
  cases xd <;> first | (cases ek; done) | skip
  cases ek
  cases r1
  refine ⟨_, rfl, ?_⟩
  cases k with
  | true => rw [if_pos rfl] at q4 ⊢; exact q4 _ H1 g1 .refl S1 (VR.bl _)
  | false => rw [if_neg (by decide)] at q4 ⊢; exact ⟨g1, τ, m1, S1, q4⟩
theorem e_one {a : ME} {op : BoolOp} {x : Expr} {p : Pos} (ha : Snd G cla n W X x a) : Snd G cla n W X (.BoolOp op [x] p) (.one a) := by
  have pw : PW X (.BoolOp op [x] p) (tT X.K cla W (evalB G.consts (callN G n) (.one a))) := by
    cases op with
    | And => exact pw_and1 ha.pt
    | Or => exact pw_or1 ha.pt
  exact ⟨pe_one ha.pe, pw.pt, fun op vs p' e => by cases e; exact pw⟩
theorem pt_ifE {c a b : Expr} {pos : Pos} {tc ta tb : TT} (hc : PT X c tc) (ha : PT X a ta) (hb : PT X b tb) : PT X (.IfExp c a b pos) (fun σ H Q => tc σ H fun k H1 => if k = true then ta σ H1 Q else tb σ H1 Q) := by
  refine ⟨fun pins s σ H Q I h => ?_⟩
  refine PyProof.Rows.isTrue_IfExp (thn (hc.run pins s σ H _ I h) fun d s1 ⟨H1, I1, q1⟩ => ?_)
  cases d with
  | true => exact ha.run pins s1 σ H1 Q I1 q1
  | false => exact hb.run pins s1 σ H1 Q I1 q1
theorem e_ife {c a b : ME} {x y z : Expr} {p : Pos} (hc : Snd G cla n W X x c) (ha : Snd G cla n W X y a) (hb : Snd G cla n W X z b) : Snd G cla n W X (.IfExp x y z p) (.ife c a b) where
  pe := PE.imp (pe_ifExp hc.pt ha.pe hb.pe) fun σ H Q ⟨g, τ, m, S, q⟩ => by
    refine part_T (R2 := RvR X.K) S q (fun H1 g1 E H g v r _ rr => rr.base E) fun k H1 g1 m1 E1 S1 h1 => ?_
    cases k with
    | true => rw [if_pos rfl] at h1 ⊢; exact ⟨g1, τ, m1, S1, h1⟩
    | false => rw [if_neg (by decide)] at h1 ⊢; exact ⟨g1, τ, m1, S1, h1⟩
  pt := PT.imp (pt_ifE hc.pt ha.pt hb.pt) fun σ H Q ⟨g, τ, m, S, q⟩ => by
    have e : evalB G.consts (callN G n) (.ife c a b) τ m = (toV (EvE G n c τ m)).bind fun x m1 => (opt (asBool x) m1).bind fun k m2 => if k then evalB G.consts (callN G n) a τ m2 else evalB G.consts (callN G n) b τ m2 := by
      rw [evalB_eq]
      show (toV ((toV (EvE G n c τ m)).bind _)).bind _ = _
      cases toV (EvE G n c τ m) with
      | stuck => rfl
      | exc e m => rfl
      | ok d m1 => cases d <;> first | rfl | (rename_i k; cases k <;> rfl)
    rw [e] at q
    refine part_T (R2 := fun _ _ _ _ b k => b = k) S q (fun _ _ _ _ _ _ _ _ r => r) fun k H1 g1 m1 E1 S1 h1 => ?_
    cases k with
    | true => rw [if_pos rfl] at h1 ⊢; exact ⟨g1, τ, m1, S1, h1⟩
    | false => rw [if_neg (by decide)] at h1 ⊢; exact ⟨g1, τ, m1, S1, h1⟩
  pw := fun op vs p e => by cases e
end
end P3
set_option Elab.async false
set_option linter.all false
set_option maxRecDepth 100000
set_option maxHeartbeats 0
/-! P3J: displays, places, calls -/
namespace P3
open PySem L2
section
variable {G : GE} {cla : String → Addr} {n : Nat} {W : WX} {FN : Tb} {N : List Str} {sc sct : Scope} {X : Cx}
noncomputable abbrev EvEs (G : GE) (n : Nat) (es : MEs) : Tau → Mem → Out (List D) := evalEs G.consts (callN G n) es
theorem e_nil : PA X [] (tVs X.K cla W (EvEs G n .nil)) := PA.imp pa_nil fun σ H Q ⟨g, τ, m, S, q⟩ => q [] H g .refl S .nil
theorem e_cons {a : ME} {es : MEs} {x : Expr} {xs : List Expr} (hx : plainX x = true) (ha : Snd G cla n W X x a) (hr : PA X xs (tVs X.K cla W (EvEs G n es))) : PA X (x :: xs) (tVs X.K cla W (EvEs G n (.cons a es))) :=
  PA.imp (pa_cons ha.v hr (star_of hx)) fun σ H Q ⟨g, τ, m, S, q⟩ => by
    refine ⟨g, τ, m, S, Aft.bind (R2 := fun _ _ => VRsr X.K) q (fun _ _ _ _ _ _ _ _ r => r) fun d m1 xv H1 g1 _ E1 S1 r1 q1 => ?_⟩
    refine ⟨g1, τ, m1, S1, Aft.bind (R2 := fun _ _ => VRsr X.K) q1 (fun _ _ _ _ _ _ _ _ r => r) fun ds m2 xvs H2 g2 _ E2 S2 r2 q2 => ?_⟩
    exact q2 _ H2 g2 .refl S2 (.cons (VR.mono E2.le r1) r2)
theorem ite_stuck {K : PySem.W.Frag} {α γ : Type} {R : Hp → Gh → γ → α → Prop} {H : Hp} {g : Gh} {σ : St} {τ : Tau} {c : Prop} [Decidable c] {o : Out α} {Q : γ → Hp → Prop} (h : Aft K cla R H g σ τ W (if c then o else .stuck) Q) : c ∧ Aft K cla R H g σ τ W o Q := by
  by_cases hc : c
  · rw [if_pos hc] at h; exact ⟨hc, h⟩
  · rw [if_neg hc] at h; exact h.elim
theorem e_tup {es : MEs} {xs : List Expr} {k : Nat} {p : Pos} (h : PA X xs (tVs X.K cla W (EvEs G n es))) : PE X (.Tuple xs k p) (tE X.K cla W (EvE G n (.tup es))) :=
  PE.imp (pe_tup h) fun σ H Q ⟨g, τ, m, S, q⟩ => by
    refine ⟨g, τ, m, S, Aft.bind (R2 := RvR X.K) q (fun H1 g1 E H g v r _ rr => rr.base E) fun ds m1 vs H1 g1 _ E1 S1 r1 q1 => ?_⟩
    obtain ⟨hl, q2⟩ := ite_stuck q1
    have r1 : VRs X.K g1 vs ds := r1
    exact ⟨by rw [r1.length]; exact to_line hl, fun a ha => q2 _ _ _ (Ext.newF S1 ha) (S1.newF ha) (VR.tup (.inl Gh.freeze_at) (r1.mono (Gh.freeze_le (S1.none_fz ha))))⟩
theorem e_lst {es : MEs} {xs : List Expr} {p : Pos} (h : PA X xs (tVs X.K cla W (EvEs G n es))) : PE X (.List xs p) (tE X.K cla W (EvE G n (.lst es))) :=
  PE.imp (pe_lst h) fun σ H Q ⟨g, τ, m, S, q⟩ => by
    refine ⟨g, τ, m, S, Aft.bind (R2 := RvR X.K) q (fun H1 g1 E H g v r _ rr => rr.base E) fun ds m1 vs H1 g1 _ E1 S1 r1 q1 => ?_⟩
    obtain ⟨hl, q2⟩ := ite_stuck q1
    have r1 : VRs X.K g1 vs ds := r1
    exact ⟨by rw [r1.length]; exact to_line hl, fun a ha => q2 _ _ _ (Ext.new' ha) (S1.new ha) ⟨a, rfl, ⟨vs, upd_same, r1⟩, S1.none_fz ha, S1.none_ow ha, .inl ha⟩⟩
theorem e_idx {a i : ME} {x y : Expr} {p : Pos} (C : Ctx G cla n W FN N sc sct X) (hy : plainX y = true) (ma : mtE FN N sc a x = true) (ha : Snd G cla n W X x a) (hi : Snd G cla n W X y i) : PE X (.Subscript x y p) (tE X.K cla W (EvE G n (.idx a i))) :=
  PE.imp (pe_ix (ix_any (room_deep C)) (ha.pk C ma) hi.v (ix_of hy)) fun σ H Q ⟨g, τ, m, S, q⟩ => by
    refine ⟨g, τ, m, S, Aft.bind (R2 := RvR X.K) q (fun H1 g1 E H g v r _ rr => rr.base E) fun xd m1 xv H1 g1 _ E1 S1 r1 q1 => ?_⟩
    refine ⟨g1, τ, m1, S1, Aft.bind (R2 := RvR X.K) q1 (fun H1 g1 E H g v r _ rr => rr.base E) fun yd m2 yv H2 g2 _ E2 S2 r2 q2 => ?_⟩
    obtain ⟨d, e, q3⟩ := out_opt q2
    exact idx_ok e ((r1.mono E2.le).look S2) r2 fun v r => q3 v H2 g2 .refl S2 r
/-- a part's end -/
def tP (K : PySem.W.Frag) (cla : String → Addr) (W : WX) (ev : Tau → Mem → Out (Option Int)) : TO := fun σ H Q => ∃ g τ m, SR K cla H g σ τ m ∧ Aft K cla (fun _ _ a b => a = b) H g σ τ W (ev τ m) Q
theorem po_imp {e : Option Expr} {t t' : TO} (h : PO X e t) (i : ∀ σ H Q, t' σ H Q → t σ H Q) : PO X e t' := ⟨fun pins s σ H Q I q => h.run pins s σ H Q I (i σ H Q q)⟩
theorem e_po0 : PO X none (tP X.K cla W (evalP G.consts (callN G n) .nil)) := po_imp po_none fun σ H Q ⟨g, τ, m, S, q⟩ => q none H g .refl S rfl
theorem e_po1 {a : ME} {es : MEs} {x : Expr} (ha : Snd G cla n W X x a) : PO X (some x) (tP X.K cla W (evalP G.consts (callN G n) (.cons a es))) := po_imp (po_some ha.v) fun σ H Q ⟨g, τ, m, S, q⟩ => by
  refine ⟨g, τ, m, S, Aft.bind (R2 := fun _ _ _ _ a b => a = b) q (fun _ _ _ _ _ _ _ _ r => r) fun xd m1 xv H1 g1 _ E1 S1 r1 q1 => ?_⟩
  obtain ⟨i, e, q2⟩ := out_opt q1
  cases xd <;> first | (cases e; done) | skip
  cases e
  cases r1
  exact ⟨_, rfl, q2 _ H1 g1 .refl S1 rfl⟩
theorem e_slc {a : ME} {lo hi : MEs} {x : Expr} {l h : Option Expr} {p p2 : Pos} (C : Ctx G cla n W FN N sc sct X) (ma : mtE FN N sc a x = true) (ha : Snd G cla n W X x a) (hl : PO X l (tP X.K cla W (evalP G.consts (callN G n) lo))) (hh : PO X h (tP X.K cla W (evalP G.consts (callN G n) hi))) :
    PE X (.Subscript x (.Slice l h none p2) p) (tE X.K cla W (EvE G n (.slc a lo hi))) :=
  PE.imp (pe_slice sl_any (ha.pk C ma) hl hh) fun σ H Q ⟨g, τ, m, S, q⟩ => by
    refine ⟨g, τ, m, S, Aft.bind (R2 := RvR X.K) q (fun H1 g1 E H g v r _ rr => rr.base E) fun xd m1 xv H1 g1 _ E1 S1 r1 q1 => ?_⟩
    refine ⟨g1, τ, m1, S1, Aft.bind (R2 := RvR X.K) q1 (fun H1 g1 E H g v r _ rr => rr.base E) fun ld m2 lv H2 g2 _ E2 S2 r2 q2 => ?_⟩
    refine ⟨g2, τ, m2, S2, Aft.bind (R2 := RvR X.K) q2 (fun H1 g1 E H g v r _ rr => rr.base E) fun hd m3 hv H3 g3 _ E3 S3 r3 q3 => ?_⟩
    cases (show lv = ld from r2)
    cases (show hv = hd from r3)
    obtain ⟨rv, e, q4⟩ := out_opt0 q3
    exact slc_ok e S3 (((r1.mono E2.le).mono E3.le).look S3) q4
/-- a call's end at the caller's -/
theorem aft_of_call {K : PySem.W.Frag} {H : Hp} {g : Gh} {σ : St} {τ : Tau} {m : Mem} {o : Out Rv} {Q : VK} (S : SR K cla H g σ τ m) (q : Aft K cla (RvR K H g) H g σ τ W o Q) : AftC K cla H g.call o Q (fun c d H => W c d σ H) := by
  cases o with
  | stuck => exact q
  | ok r m1 =>
    intro v H1 g1 E S1 hs rr
    obtain ⟨S2, E2⟩ := S.back S1 E hs
    refine q v H1 (g.back g1) E2 S2 ?_
    have le : g1.le (g.back g1) := ⟨fun _ _ z => z, fun _ _ z => z⟩
    cases r with
    | val d => exact VR.mono le rr
    | own c =>
      obtain ⟨a, ev, cr, z, nw, b⟩ := rr
      refine ⟨a, ev, cr.mono rfl le, z, fun w e => ?_, ?_⟩
      · cases w with
        | loc l => exact nw _ e
        | fld l f => exact nw _ e
        | slot i =>
          have e : g.ow (.slot i) = some a := e
          rcases b with b | ⟨w0, b⟩
          · exact S.trk _ _ e b
          · obtain ⟨b1, b2⟩ := Gh.call_ow b
            exact b2 i (S.inj _ _ _ b1 e)
      · exact b.imp id fun ⟨w0, b⟩ => ⟨w0, (Gh.call_ow b).1⟩
  | exc e m1 =>
    intro c d H1 g1 E S1 hs rr
    obtain ⟨S2, E2⟩ := S.back S1 E hs
    have le : g1.le (g.back g1) := ⟨fun _ _ z => z, fun _ _ z => z⟩
    refine q c d H1 (g.back g1) E2 S2 ⟨rr.1, ?_⟩
    have r2 := rr.2
    cases d with
    | none => exact r2
    | some a =>
      obtain ⟨fv, e1, fr⟩ := r2
      exact ⟨fv, e1, fr.mono (fun _ _ _ => rfl) le fun _ _ z => z⟩
theorem vrs_call {K : PySem.W.Frag} {g : Gh} {vs : List V} {ds : List D} (h : VRs K g vs ds) : VRs K g.call vs ds := h.mono Gh.call_le
theorem e_call {f : String} {es : MEs} {x : Str} {y : Expr} {ys : List Expr} {p pos : Pos} (C : Ctx G cla n W FN N sc sct X) (hF : FN.fn f = true) (hx : (decide (Str.ofString f = x) && glB sc x && plainName x) = true) (hy : (y :: ys).all plainX = true) (h : PA X (y :: ys) (tVs X.K cla W (EvEs G n es))) :
    PE X (.Call (.Name x p) (y :: ys) [] pos) (tE X.K cla W (EvE G n (.call f es))) := by
  simp only [Bool.and_eq_true, decide_eq_true_eq] at hx
  obtain ⟨⟨e, hg⟩, hp⟩ := hx
  subst e
  have hy2 : plainX y = true ∧ ys.all plainX = true := by simpa [List.all_cons] using hy
  obtain ⟨fn, a, hf, hm, hk, ⟨fd, ps, hb, F⟩⟩ := C.fn f hF
  refine PE.imp (pe_callS F C.room (gl_of C hg) hm hk hb (E := WE W) C.pass h (plain_of hp).1 (star_of hy2.1) (stars_of hy2.2)) fun σ H Q ⟨g, τ, m, S, q⟩ => ?_
  refine ⟨g, τ, m, S, Aft.bind (R2 := RvR X.K) q (fun H1 g1 E H g v r _ rr => rr.base E) fun ds m1 vs H1 g1 _ E1 S1 r1 q1 => ?_⟩
  refine ⟨g1.call, m1, ds, vrs_call r1, S1.call, fun _ => rfl, ?_, aft_of_call S1 q1⟩
  cases n with
  | zero => exact q1.elim
  | succ k =>
    simp only [callN, hf] at q1
    exact (ite_stuck q1).1
theorem e_blt {f : BF} {a : ME} {x : Str} {y : Expr} {p pos : Pos} (C : Ctx G cla n W FN N sc sct X) (hx : (decide (Str.ofString f.name = x) && glB sc x && plainX y) = true) (ma : mtE FN N sc a y = true) (ha : Snd G cla n W X y a) :
    PE X (.Call (.Name x p) [y] [] pos) (tE X.K cla W (EvE G n (.blt f a))) := by
  simp only [Bool.and_eq_true, decide_eq_true_eq] at hx
  obtain ⟨⟨e, hg⟩, hy⟩ := hx
  subst e
  have hm : X.mg (Str.ofString f.name) = none := C.free _ (by cases f <;> decide)
  have hpa := pa_cons (ha.pk C ma) pa_nil (star_of (env := X.env) (es := []) hy)
  have hpl : (backTo pos (starEach ([] : List Expr) X.env)).any (·.1) = false := rfl
  have hn : (Str.ofString f.name) ≠ ("__name__" : Str) := by cases f <;> decide +kernel
  have hd : ((Str.ofString f.name) == ("__debug__" : Str)) = false := by cases f <;> decide +kernel
  have key : ∀ σ H Q, tE X.K cla W (EvE G n (.blt f a)) σ H Q → tCB (rBF X.K f) (tCons (tPk X.K cla W (fun τ m => pk a τ m (evalE G.consts (callN G n) a τ m))) tNil) σ H Q := fun σ H Q ⟨g, τ, m, S, q⟩ => by
    refine ⟨g, τ, m, S, Aft.bind (R2 := RvR X.K) q (fun H1 g1 E H g v r _ rr => rr.base E) fun xd m1 xv H1 g1 _ E1 S1 r1 q1 => ?_⟩
    obtain ⟨rv, e, q2⟩ := out_opt0 q1
    refine bf_ok e S1 (r1.look S1) (fun b eb => ?_) q2 (fun ds ed hf => ?_)
    · have hl := r1.look S1
      rw [eb] at hl
      exact hl
    · have r1' : PkR X.K σ τ g1 xv xd := r1
      cases xd with
      | tup zs =>
        rcases r1' with r1' | ⟨i, c, e1, e2, e3⟩
        · exact r1'
        · cases c <;> cases e3
      | loc l =>
        exfalso
        simp only [deref] at ed
        cases hq : m1[l]? with
        | none => rw [hq] at ed; cases ed
        | some o =>
          rw [hq] at ed
          cases o with
          | ct c => cases c <;> cases ed
          | inst _ _ => cases ed
      | _ => cases ed
  by_cases ht : f.isTy = true
  · have hv : bootBuiltins (Str.ofString f.name) = some (.type f.name) := by rw [f.boot]; cases f <;> first | rfl | cases ht
    have hc : CallR X (.type f.name) (rBF X.K f) := by
      have := call_BF (X := X) C.calm f
      cases f <;> first | exact this | cases ht
    exact PE.imp (pe_callTy hc (gl_of C hg) hm hv hpa hn hd (star_of hy) hpl) key
  · have hv : bootBuiltins (Str.ofString f.name) = some (.builtin f.name) := by rw [f.boot]; cases f <;> first | rfl | exact absurd rfl ht
    have hc : CallR X (.builtin f.name) (rBF X.K f) := by
      have := call_BF (X := X) C.calm f
      cases f <;> first | exact this | exact absurd rfl ht
    exact PE.imp (pe_callB hc (gl_of C hg) hm hv hpa hn hd (star_of hy) hpl) key
theorem e_isi {t : IT} {a : ME} {x z : Str} {y : Expr} {p p2 pos : Pos} (C : Ctx G cla n W FN N sc sct X) (hx : x = "isinstance") (hg : glB sc x = true) (hy : plainX y = true) (hz : Str.ofString t.name = z) (hgz : glB sc z = true) (ha : Snd G cla n W X y a) :
    PE X (.Call (.Name x p) [y, .Name z p2] [] pos) (tE X.K cla W (EvE G n (.isi a t))) := by
  subst hx hz
  have hm : X.mg (Str.ofString "isinstance") = none := C.free _ (by decide)
  have hm2 : X.mg (Str.ofString t.name) = none := C.free _ (by cases t <;> decide)
  have hz1 : (Str.ofString t.name) ≠ ("__name__" : Str) := by cases t <;> decide +kernel
  have hz2 : ((Str.ofString t.name) == ("__debug__" : Str)) = false := by cases t <;> decide +kernel
  have hT : PE X (.Name (Str.ofString t.name) p2) (tC (.ty t.name)) := pe_bltn (gl_of C hgz) hm2 t.boot rfl hz1 hz2
  have hpa := pa_cons ha.v (pa_cons hT pa_nil (star_of (env := X.env) (es := []) (e := .Name (Str.ofString t.name) p2) rfl)) (star_of (env := X.env) (es := [.Name (Str.ofString t.name) p2]) hy)
  refine PE.imp (pe_callB call_isi (gl_of C hg) hm (by decide +kernel) hpa (by decide +kernel) (by decide +kernel) (star_of hy) rfl) fun σ H Q ⟨g, τ, m, S, q⟩ => ?_
  refine ⟨g, τ, m, S, Aft.bind (R2 := RvR X.K) q (fun H1 g1 E H g v r _ rr => rr.base E) fun xd m1 xv H1 g1 _ E1 S1 r1 q1 => ?_⟩
  obtain ⟨b, e, q2⟩ := out_opt q1
  exact ⟨xv, .ty t.name, _, _, b, rfl, .ty _, isi_ty S1 e r1, isi_kit e, q2 _ H1 g1 .refl S1 (VR.bl b)⟩
theorem e_alloc {a : ME} {x : Expr} (ha : Snd G cla n W X x a) : PE X x (tE X.K cla W (EvE G n (.alloc a))) :=
  PE.imp ha.pe fun σ H Q ⟨g, τ, m, S, q⟩ => by
    refine ⟨g, τ, m, S, ?_⟩
    simp only [EvE, evalE] at q ⊢
    cases e : evalE G.consts (callN G n) a τ m with
    | stuck => rw [e] at q; exact q
    | exc x m1 => rw [e] at q; exact q
    | ok r m1 =>
      rw [e] at q
      cases r with
      | val d => exact q.elim
      | own c =>
        intro v H1 g1 E1 S1 rr
        obtain ⟨b, rfl, cr, z, nw, bb⟩ := rr
        exact q _ H1 (g1.give (.loc m1.length) b) (E1.give (fun l hl => by cases hl; exact S1.noLoc) bb) (S1.giveLoc cr nw z) (VR.loc (if_pos rfl))
theorem e_call0 {f : String} {x : Str} {p pos : Pos} (C : Ctx G cla n W FN N sc sct X) (hF : FN.fn f = true) (hx : (decide (Str.ofString f = x) && glB sc x && plainName x) = true) :
    PE X (.Call (.Name x p) [] [] pos) (tE X.K cla W (EvE G n (.call f .nil))) := by
  simp only [Bool.and_eq_true, decide_eq_true_eq] at hx
  obtain ⟨⟨e, hg⟩, hp⟩ := hx
  subst e
  obtain ⟨fn, a, hf, hm, hk, ⟨fd, ps, hb, F⟩⟩ := C.fn f hF
  refine PE.imp (pe_callSD0 F C.room (gl_of C hg) hm hk hb .nil (E := WE W) C.pass (plain_of hp).1) fun σ H Q ⟨g, τ, m, S, q⟩ => ?_
  have q : Aft X.K cla (RvR X.K H g) H g σ τ W (callN G n f [] m) Q := q
  refine ⟨g.call, m, [], .nil, S.call, fun _ => rfl, ?_, aft_of_call S q⟩
  cases n with
  | zero => exact q.elim
  | succ k =>
    simp only [callN, hf] at q
    exact (ite_stuck q).1
theorem e_sset {a : ME} {x y : Str} {z : Expr} {p p2 pos pos2 : Pos} (C : Ctx G cla n W FN N sc sct X) (hx : x = "sorted") (hg : glB sc x = true) (hy : y = "set") (hg2 : glB sc y = true) (hz : plainX z = true) (ma : mtE FN N sc a z = true) (ha : Snd G cla n W X z a) :
    PE X (.Call (.Name x p) [.Call (.Name y p2) [z] [] pos2] [] pos) (tE X.K cla W (EvE G n (.sset a))) := by
  subst hx hy
  have hm : X.mg (Str.ofString "sorted") = none := C.free _ (by decide)
  have hm2 : X.mg (Str.ofString "set") = none := C.free _ (by decide)
  have hu : X.A.units + 64 < cLine := by have := room_deep C; have : deepest = 200 := rfl; omega
  have hset := pe_callTy (pos := pos2) (p := p2) (cr_setOfT C.calm hu) (gl_of C hg2) hm2 PyProof.Rows.boot_set (pa_cons (ha.pk C ma) pa_nil (star_of (env := X.env) (es := []) hz)) (by decide +kernel) (by decide +kernel) (star_of hz) rfl
  refine PE.imp (pe_callB (cr_sortedT C.calm) (gl_of C hg) hm (by decide +kernel) (pa_cons hset pa_nil (star_of (env := X.env) (es := []) rfl)) (by decide +kernel) (by decide +kernel) (star_of rfl) rfl) fun σ H Q ⟨g, τ, m, S, q⟩ => ?_
  refine ⟨g, τ, m, S, Aft.bind (R2 := RvR X.K) q (fun H1 g1 E H g v r _ rr => rr.base E) fun xd m1 xv H1 g1 _ E1 S1 r1 q1 => ?_⟩
  obtain ⟨rv, e, q2⟩ := out_opt0 q1
  exact sset_ok e S1 (r1.look S1) q2
theorem e_mx {a b : ME} {x : Str} {y z : Expr} {p pos : Pos} (C : Ctx G cla n W FN N sc sct X) (hx : x = "max") (hg : glB sc x = true) (hy : plainX y = true) (hz : plainX z = true) (ha : Snd G cla n W X y a) (hb : Snd G cla n W X z b) :
    PE X (.Call (.Name x p) [y, z] [] pos) (tE X.K cla W (EvE G n (.mx a b))) := by
  subst hx
  have hm : X.mg (Str.ofString "max") = none := C.free _ (by decide)
  refine PE.imp (pe_callB (call_max2 C.calm) (gl_of C hg) hm (by decide +kernel) (pa_cons ha.v (pa_cons hb.v pa_nil (star_of hz)) (star_of hy)) (by decide +kernel) (by decide +kernel) (star_of hy) (by rw [star_of hz]; rfl)) fun σ H Q ⟨g, τ, m, S, q⟩ => ?_
  refine ⟨g, τ, m, S, Aft.bind (R2 := RvR X.K) q (fun H1 g1 E H g v r _ rr => rr.base E) fun xd m1 xv H1 g1 _ E1 S1 r1 q1 => ?_⟩
  refine ⟨g1, τ, m1, S1, Aft.bind (R2 := RvR X.K) q1 (fun H1 g1 E H g v r _ rr => rr.base E) fun yd m2 yv H2 g2 _ E2 S2 r2 q2 => ?_⟩
  obtain ⟨d, e, q3⟩ := out_opt q2
  unfold mxEv at e
  split at e
  · cases e
    cases r1
    cases r2
    exact ⟨_, _, rfl, q3 _ H2 g2 .refl S2 (VR.int _)⟩
  · cases e
end
end P3
set_option Elab.async false
set_option linter.all false
set_option maxRecDepth 100000
set_option maxHeartbeats 0
/-! P3K: targets, what is walked, comprehensions -/
namespace P3
open PySem L2
theorem PI.imp {X : Cx} {tg e : Expr} {t t' : TI} (h : PI X tg e t) (i : ∀ σ H Q, t' σ H Q → t σ H Q) : PI X tg e t' := ⟨fun pins s σ H Q I q => h.run pins s σ H Q I (i σ H Q q)⟩
theorem PI.or {X : Cx} {tg e : Expr} {t t' : TI} (h : PI X tg e t) (h' : PI X tg e t') : PI X tg e (fun σ H R => t σ H R ∨ t' σ H R) := ⟨fun pins s σ H Q I q => q.elim (h.run pins s σ H Q I) (h'.run pins s σ H Q I)⟩
/-! ### targets -/
def gNames : List Nat → TGs
  | [] => gNil
  | i :: is => gCons (gName i) (gNames is)
def tGt (K : PySem.W.Frag) : Tgt → TG
  | .name i => gName i
  | .tup is => gTup K is.length (gNames is)
section
variable {G : GE} {cla : String → Addr} {n : Nat} {W : WX} {FN : Tb} {N : List Str} {sc sct : Scope} {X : Cx}
theorem pg_slot {i : Nat} {x : Str} {p : Pos} (C : Ctx G cla n W FN N sc sct X) (h : N[i]? = some x) (hl : locB sct x = true) : PG X (.Name x p) (gName i) := by
  obtain ⟨h1, h2⟩ := C.tgt x hl
  exact pg_name (by rw [C.names]; exact C.nd) (by rw [C.names]; exact h) h1 h2
theorem pgs_slots (C : Ctx G cla n W FN N sc sct X) : ∀ {is : List Nat} {es : List Expr}, slotsB N sct is es = true → PGs X es (gNames is) ∧ (assignEach es X.env).length = is.length ∧ (assignEach es X.env).findIdx? (·.1) = none
  | [], [], _ => ⟨pgs_nil, rfl, rfl⟩
  | [], _ :: _, h => by simp [slotsB] at h
  | _ :: _, [], h => by simp [slotsB] at h
  | i :: is, e :: es, h => by
    cases e <;> first | (simp [slotsB] at h; done) | skip
    rename_i x p
    simp only [slotsB, Bool.and_eq_true, decide_eq_true_eq] at h
    obtain ⟨⟨⟨h1, h2⟩, h3⟩, h4⟩ := h
    obtain ⟨i1, i2, i3⟩ := pgs_slots C h4
    have ea : assignEach (Expr.Name x p :: es) X.env = (false, assign (.Name x p) X.env) :: assignEach es X.env := rfl
    refine ⟨pgs_cons (pg_slot C h1 h2) i1 (by rw [ea]; rfl), by rw [ea]; simp [i2], ?_⟩
    rw [ea, List.findIdx?_cons, i3]
    rfl
theorem pg_tgt {tg : Tgt} {t : Expr} (C : Ctx G cla n W FN N sc sct X) (h : tgB N sct tg t = true) : PG X t (tGt X.K tg) := by
  cases tg with
  | name i =>
    cases t <;> first | (simp [tgB] at h; done) | skip
    simp only [tgB, Bool.and_eq_true, decide_eq_true_eq] at h
    exact pg_slot C h.1.1 h.1.2
  | tup is =>
    cases t <;> first | (simp [tgB] at h; done) | skip
    obtain ⟨h1, h2, h3⟩ := pgs_slots C (show slotsB N sct is _ = true from h)
    exact pg_tup C.calm h1 h2 h3
end
section
variable {K : PySem.W.Frag} {cla : String → Addr} {H : Hp} {g : Gh} {σ : St} {τ τ' : Tau} {m : Mem}
/-- only these slots differ -/
def SameBut (vs : List Nat) (σ σ' : St) (τ τ' : Tau) : Prop := σ'.length = σ.length ∧ τ'.length = τ.length ∧ ∀ j, j ∉ vs → σ'[j]? = σ[j]? ∧ τ'[j]? = τ[j]?
theorem SameBut.refl {vs : List Nat} : SameBut vs σ σ τ τ := ⟨rfl, rfl, fun _ _ => ⟨rfl, rfl⟩⟩
theorem SameBut.set {vs : List Nat} {σ' : St} {i : Nat} {v : Option V} {s : Option Slot} (h : SameBut vs σ σ' τ τ') (hi : i ∈ vs) : SameBut vs σ (σ'.set i v) τ (τ'.set i s) := by
  refine ⟨by rw [List.length_set]; exact h.1, by rw [List.length_set]; exact h.2.1, fun j hj => ?_⟩
  have e : i ≠ j := fun z => hj (z ▸ hi)
  rw [List.getElem?_set_ne e, List.getElem?_set_ne e]
  exact h.2.2 j hj
theorem names_ok : ∀ {is : List Nat} {vs : List V} {ds : List D} {σ : St} {τ τ' : Tau} {g : Gh} {own : List Nat} {σ0 : St} {τ0 : Tau} {H0 : Hp} {g0 : Gh} {Q : St → Hp → Prop}, setNames is ds τ = some τ' → SR K cla H g σ τ m → VRs K g vs ds → Ext H0 g0 H g → SameBut own σ0 σ τ0 τ → (∀ i, i ∈ is → i ∈ own) →
    (∀ σ' g', Ext H0 g0 H g' → SR K cla H g' σ' τ' m → SameBut own σ0 σ' τ0 τ' → Q σ' H) → gNames is vs σ H Q
  | [], _, [], σ, τ, τ', g, own, σ0, τ0, H0, g0, Q, e, S, r, E, b, hi, h => by
    cases r
    cases e
    exact ⟨rfl, h σ g E S b⟩
  | [], _, _ :: _, _, _, _, _, _, _, _, _, _, _, e, _, _, _, _, _, _ => by cases e
  | _ :: _, _, [], _, _, _, _, _, _, _, _, _, _, e, _, _, _, _, _, _ => by cases e
  | i :: is, _, d :: ds, σ, τ, τ', g, own, σ0, τ0, H0, g0, Q, e, S, r, E, b, hi, h => by
    cases r with
    | cons r t =>
      have le : g.le (g.drop (.slot i)) := ⟨fun _ _ q => q, fun l b q => by
        show (if Own.loc l = .slot i then none else g.ow (.loc l)) = some b
        rw [if_neg (by intro z; cases z)]; exact q⟩
      exact ⟨_, _, rfl, names_ok (show setNames is ds (τ.set i (some (.val d))) = some τ' from e) (S.setVal r) (t.mono le) (E.drop (fun l => by intro z; cases z)) (b.set (hi i List.mem_cons_self)) (fun j hj => hi j (List.mem_cons_of_mem _ hj)) h⟩
theorem tgt_ok {tg : Tgt} {v : V} {d : D} {own : List Nat} {σ0 : St} {τ0 : Tau} {H0 : Hp} {g0 : Gh} {Q : St → Hp → Prop} (e : tgEv tg d τ = some τ') (S : SR K cla H g σ τ m) (r : VR K g v d) (E : Ext H0 g0 H g) (b : SameBut own σ0 σ τ0 τ) (hi : tg.within own = true)
    (h : ∀ σ' g', Ext H0 g0 H g' → SR K cla H g' σ' τ' m → SameBut own σ0 σ' τ0 τ' → Q σ' H) : tGt K tg v σ H Q := by
  cases tg with
  | name i =>
    cases e
    exact h _ _ (E.drop (fun l => by intro z; cases z)) (S.setVal r) (b.set (by simpa [Tgt.within] using hi))
  | tup is =>
    cases d <;> first | (cases e; done) | skip
    rename_i xs
    have e : (if xs.length ≤ lim then setNames is xs τ else none) = some τ' := e
    split at e
    · cases r with
      | tup a rs =>
        have hl : ∀ {is : List Nat} {xs : List D} {τ τ' : Tau}, setNames is xs τ = some τ' → is.length = xs.length := by
          intro is
          induction is with
          | nil => intro xs τ τ' e; cases xs <;> first | rfl | cases e
          | cons i is ih => intro xs τ τ' e; cases xs with
            | nil => cases e
            | cons x xs => exact congrArg (· + 1) (ih (show setNames is xs _ = some τ' from e))
        exact ⟨_, _, rfl, S.tupR a, by rw [rs.length]; exact (hl e).symm, names_ok e S rs E b (by simpa [Tgt.within] using hi) h⟩
    · cases e
/-! ### what is walked -/
/-- J gives the items xs, one after the other -/
def Yld (K : PySem.W.Frag) (cla : String → Addr) (J : It) (g1 : Gh) (xs : List D) : Prop := ∀ (i : Nat) (H : Hp) (g : Gh) (σ : St) (τ : Tau) (m : Mem), g1.le g → SR K cla H g σ τ m →
  (∀ d, xs[i]? = some d → J.go i H ∧ ∀ x H', J.yld i H x H' → ∃ g', Ext H g H' g' ∧ SR K cla H' g' σ τ m ∧ VR K g' x d) ∧ (xs.length ≤ i → J.stop i H)
theorem yld_lst {a : Addr} {ds : List D} (h : VR K g (.ref a) (.fl ds)) : Yld K cla (Itl K a) g ds := fun i H' g' σ τ m le S => by
  cases VR.mono le h with
  | fl z r =>
    rename_i vs
    have q : SqL K H' a vs := .inl (S.lstR z)
    refine ⟨fun d hd => ?_, fun hl => ⟨vs, q, by rw [r.length]; exact hl⟩⟩
    obtain ⟨v, e, rv⟩ := r.get hd
    refine ⟨⟨vs, v, q, e⟩, fun x H2 y => ?_⟩
    obtain ⟨rfl, y⟩ := y
    have ey := y vs q
    rw [e] at ey; cases ey
    exact ⟨g', .refl, S, rv⟩
theorem yld_tup {a : Addr} {ds : List D} (h : VR K g (.ref a) (.tup ds)) : Yld K cla (Itt K a) g ds := fun i H' g' σ τ m le S => by
  cases VR.mono le h with
  | tup z r =>
    rename_i vs
    have q : SqT K H' a vs := S.tupR z
    refine ⟨fun d hd => ?_, fun hl => ⟨vs, q, by rw [r.length]; exact hl⟩⟩
    obtain ⟨v, e, rv⟩ := r.get hd
    refine ⟨⟨vs, v, q, e⟩, fun x H2 y => ?_⟩
    obtain ⟨rfl, y⟩ := y
    have ey := y vs q
    rw [e] at ey; cases ey
    exact ⟨g', .refl, S, rv⟩
theorem yld_rng {lo hi : Int} : Yld K cla (Itr lo (hi - lo).toNat) g (rangeOf lo hi) := fun i H' g' σ τ m le S => by
  refine ⟨fun d hd => ?_, fun hl => show (hi - lo).toNat ≤ i by simpa [rangeOf] using hl⟩
  unfold rangeOf at hd
  rw [List.getElem?_map] at hd
  obtain ⟨j, hj, rfl⟩ := Option.map_eq_some_iff.mp hd
  have hlt : i < (hi - lo).toNat := by
    have := (List.getElem?_eq_some_iff.mp hj).1
    simpa using this
  rw [List.getElem?_range hlt] at hj
  cases hj
  refine ⟨hlt, fun x H2 y => ?_⟩
  obtain ⟨rfl, rfl⟩ := y
  exact ⟨g', .refl, S, .int _⟩
theorem zip_get : ∀ {xs ys : List D} {i : Nat} {d : D}, (zipOf xs ys)[i]? = some d → ∃ x y, xs[i]? = some x ∧ ys[i]? = some y ∧ d = .tup [x, y]
  | [], _, _, _, h => by simp [zipOf] at h
  | _ :: _, [], _, _, h => by simp [zipOf] at h
  | x :: xs, y :: ys, 0, d, h => by simp [zipOf] at h; exact ⟨x, y, rfl, rfl, h.symm⟩
  | x :: xs, y :: ys, i + 1, d, h => by
    obtain ⟨a, b, h1, h2, h3⟩ := zip_get (xs := xs) (ys := ys) (i := i) (d := d) (by simpa [zipOf] using h)
    exact ⟨a, b, by simpa using h1, by simpa using h2, h3⟩
theorem zip_len : ∀ (xs ys : List D), (zipOf xs ys).length = min xs.length ys.length
  | [], _ => by simp [zipOf]
  | _ :: _, [] => by simp [zipOf]
  | _ :: xs, _ :: ys => by simp only [zipOf, List.length_cons, zip_len xs ys]; omega
theorem pair_new {T : Addr} {x y : V} {d e : D} (S : SR K cla H g σ τ m) (hT : H T = none) (rx : VR K g x d) (ry : VR K g y e) :
    ∃ g', Ext H g (upd H T (.tup [x, y])) g' ∧ SR K cla (upd H T (.tup [x, y])) g' σ τ m ∧ VR K g' (.ref T) (.tup [d, e]) :=
  ⟨_, Ext.newF S hT, S.newF hT, VR.tup (.inl Gh.freeze_at) (.cons (VR.mono (Gh.freeze_le (S.none_fz hT)) rx) (.cons (VR.mono (Gh.freeze_le (S.none_fz hT)) ry) .nil))⟩
theorem yld_zipL {a b : Addr} {ds es : List D} (h : VR K g (.ref a) (.fl ds)) (h' : VR K g (.ref b) (.fl es)) : Yld K cla (Itz K a b) g (zipOf ds es) := fun i H' g' σ τ m le S => by
  cases VR.mono le h with
  | fl z r =>
    cases VR.mono le h' with
    | fl z' r' =>
      rename_i vs ws
      have q : SqL K H' a vs := .inl (S.lstR z)
      have q' : SqL K H' b ws := .inl (S.lstR z')
      refine ⟨fun d hd => ?_, fun hl => ⟨vs, ws, q, q', by rw [zip_len] at hl; rw [r.length, r'.length]; omega⟩⟩
      obtain ⟨x, y, e1, e2, rfl⟩ := zip_get hd
      obtain ⟨v, f1, rv⟩ := r.get e1
      obtain ⟨u, f2, ru⟩ := r'.get e2
      refine ⟨⟨vs, ws, v, u, q, q', f1, f2⟩, fun x' H2 yy => ?_⟩
      obtain ⟨T, v', u', rfl, hT, rfl, y1, y2⟩ := yy
      have ey := y1 vs q
      rw [f1] at ey; cases ey
      have ey := y2 ws q'
      rw [f2] at ey; cases ey
      exact pair_new S hT rv ru
theorem yld_zipT {a b : Addr} {ds es : List D} (h : VR K g (.ref a) (.tup ds)) (h' : VR K g (.ref b) (.tup es)) : Yld K cla (RZ.ItzT K a b) g (zipOf ds es) := fun i H' g' σ τ m le S => by
  cases VR.mono le h with
  | tup z r =>
    cases VR.mono le h' with
    | tup z' r' =>
      rename_i vs ws
      have q : SqT K H' a vs := S.tupR z
      have q' : SqT K H' b ws := S.tupR z'
      refine ⟨fun d hd => ?_, fun hl => ⟨vs, ws, q, q', by rw [zip_len] at hl; rw [r.length, r'.length]; omega⟩⟩
      obtain ⟨x, y, e1, e2, rfl⟩ := zip_get hd
      obtain ⟨v, f1, rv⟩ := r.get e1
      obtain ⟨u, f2, ru⟩ := r'.get e2
      refine ⟨⟨vs, ws, v, u, q, q', f1, f2⟩, fun x' H2 yy => ?_⟩
      obtain ⟨T, v', u', rfl, hT, rfl, y1, y2⟩ := yy
      have ey := y1 vs q
      rw [f1] at ey; cases ey
      have ey := y2 ws q'
      rw [f2] at ey; cases ey
      exact pair_new S hT rv ru
end
def tI (K : PySem.W.Frag) (cla : String → Addr) (W : WX) (ev : Tau → Mem → Out (List D)) : TI := fun σ H R => ∃ g τ m, SR K cla H g σ τ m ∧ Aft K cla (fun _ g J xs => Yld K cla J g xs) H g σ τ W (ev τ m) R
section
variable {G : GE} {cla : String → Addr} {n : Nat} {W : WX} {FN : Tb} {N : List Str} {sc sct : Scope} {X : Cx}
noncomputable abbrev EvI (G : GE) (n : Nat) (it : MI) : Tau → Mem → Out (List D) := evalI G.consts (callN G n) it
theorem items_eq {d : D} {xs : List D} (h : itemsOf d = some xs) : d = .tup xs ∨ d = .fl xs := by
  unfold itemsOf at h
  split at h
  · split at h
    · cases h; exact .inl rfl
    · cases h
  · split at h
    · cases h; exact .inr rfl
    · cases h
  · cases h
theorem e_seq {a : ME} {x tg : Expr} (ha : Snd G cla n W X x a) : PI X tg x (tI X.K cla W (EvI G n (.seq a))) :=
  PI.imp (PI.or (pi_list ha.v) (pi_tup ha.v)) fun σ H R ⟨g, τ, m, S, q⟩ => by
    simp only [EvI, evalI] at q
    have go : ∀ (b : Bool) (t : TI), (∀ xd m1, toV (evalE G.consts (callN G n) a τ m) = .ok xd m1 → ((∃ ds, xd = .tup ds) ↔ b = true)) →
      (if b = true then iTup X.K (tV X.K cla W fun τ m => toV (evalE G.consts (callN G n) a τ m)) σ H R else iList X.K (tV X.K cla W fun τ m => toV (evalE G.consts (callN G n) a τ m)) σ H R) := fun b t hb => by
      cases b with
      | true =>
        rw [if_pos rfl]
        refine ⟨g, τ, m, S, Aft.bind (R2 := fun _ _ _ g J xs => Yld X.K cla J g xs) q (fun _ _ _ _ _ _ _ _ r => r) fun xd m1 xv H1 g1 e E1 S1 r1 q1 => ?_⟩
        obtain ⟨ds, rfl⟩ := (hb xd m1 e).mpr rfl
        obtain ⟨xs, e2, q2⟩ := out_opt0 q1
        rcases items_eq e2 with z | z
        · cases z
          have r1 : VR X.K g1 xv (.tup ds) := r1
          obtain ⟨b, vs, rfl, sq, _⟩ := PkR.tup (σ := σ) (τ := τ) (.inl r1) S1
          exact ⟨b, rfl, ⟨vs, sq⟩, q2 _ H1 g1 .refl S1 (yld_tup r1)⟩
        · cases z
      | false =>
        rw [if_neg (by decide)]
        refine ⟨g, τ, m, S, Aft.bind (R2 := fun _ _ _ g J xs => Yld X.K cla J g xs) q (fun _ _ _ _ _ _ _ _ r => r) fun xd m1 xv H1 g1 e E1 S1 r1 q1 => ?_⟩
        have nt : ¬ ∃ ds, xd = .tup ds := fun z => by have := (hb xd m1 e).mp z; cases this
        obtain ⟨xs, e2, q2⟩ := out_opt0 q1
        rcases items_eq e2 with z | z
        · exact absurd ⟨xs, z⟩ nt
        · subst z
          have r1 : VR X.K g1 xv (.fl xs) := r1
          obtain ⟨b, vs, rfl, sq, _⟩ := PkR.lst (σ := σ) (τ := τ) (.inl r1) S1
          exact ⟨b, rfl, ⟨vs, .inl sq⟩, q2 _ H1 g1 .refl S1 (yld_lst r1)⟩
    by_cases ht : ∃ ds m1, toV (evalE G.consts (callN G n) a τ m) = .ok (.tup ds) m1
    · obtain ⟨ds, m1, e⟩ := ht
      exact .inr (go true (fun _ _ _ => True) fun xd m2 e2 => ⟨fun _ => rfl, fun _ => by rw [e] at e2; cases e2; exact ⟨ds, rfl⟩⟩)
    · exact .inl (go false (fun _ _ _ => True) fun xd m2 e2 => ⟨fun ⟨ds, z⟩ => absurd ⟨ds, m2, z ▸ e2⟩ ht, fun z => by cases z⟩)
theorem mid_ok {i : Int} (h : midInt i = true) : -(2 ^ 62) ≤ i ∧ i < 2 ^ 62 := by
  unfold midInt at h
  simp only [Bool.and_eq_true, decide_eq_true_eq] at h
  have e : (2 : Int) ^ 62 = 4611686018427387904 := by decide
  omega
theorem e_rng1 {a : ME} {x tg : Expr} {p pos : Pos} (C : Ctx G cla n W FN N sc sct X) (hg : glB sc "range" = true) (hx : plainX x = true) (ha : Snd G cla n W X x a) : PI X tg (.Call (.Name "range" p) [x] [] pos) (tI X.K cla W (EvI G n (.range1 a))) :=
  PI.imp (pi_range1 (gl_of C hg) (C.free "range" (by decide)) (pa_cons ha.v pa_nil (star_of hx)) (star_of hx)) fun σ H R ⟨g, τ, m, S, q⟩ => by
    refine ⟨g, τ, m, S, Aft.bind (R2 := fun _ _ _ g J xs => Yld X.K cla J g xs) q (fun _ _ _ _ _ _ _ _ r => r) fun xd m1 xv H1 g1 e E1 S1 r1 q1 => ?_⟩
    obtain ⟨i, e2, q2⟩ := out_opt q1
    cases xd <;> first | (cases e2; done) | skip
    cases e2
    cases r1
    obtain ⟨hm, q3⟩ := ite_stuck q2
    obtain ⟨b1, b2⟩ := mid_ok hm
    refine ⟨i, rfl, b1, b2, ?_⟩
    have := q3 (Itr 0 i.toNat) H1 g1 .refl S1 (by
      have := yld_rng (K := X.K) (cla := cla) (g := g1) (lo := 0) (hi := i)
      rw [Int.sub_zero] at this
      exact this)
    exact this
theorem e_rng2 {a b : ME} {x y tg : Expr} {p pos : Pos} (C : Ctx G cla n W FN N sc sct X) (hg : glB sc "range" = true) (hx : plainX x = true) (hy : plainX y = true) (ha : Snd G cla n W X x a) (hb : Snd G cla n W X y b) : PI X tg (.Call (.Name "range" p) [x, y] [] pos) (tI X.K cla W (EvI G n (.range2 a b))) :=
  PI.imp (pi_range2 (gl_of C hg) (C.free "range" (by decide)) (pa_cons ha.v (pa_cons hb.v pa_nil (star_of hy)) (star_of hx)) (by rw [star_of hx, star_of hy]; rfl) (star_of hy)) fun σ H R ⟨g, τ, m, S, q⟩ => by
    refine ⟨g, τ, m, S, Aft.bind (R2 := fun _ _ _ g J xs => Yld X.K cla J g xs) q (fun _ _ _ _ _ _ _ _ r => r) fun xd m1 xv H1 g1 e E1 S1 r1 q1 => ?_⟩
    refine ⟨g1, τ, m1, S1, Aft.bind (R2 := fun _ _ _ g J xs => Yld X.K cla J g xs) q1 (fun _ _ _ _ _ _ _ _ r => r) fun yd m2 yv H2 g2 e E2 S2 r2 q2 => ?_⟩
    obtain ⟨i, e2, q3⟩ := out_opt q2
    obtain ⟨j, e3, q4⟩ := out_opt q3
    cases xd <;> first | (cases e2; done) | skip
    cases e2
    cases yd <;> first | (cases e3; done) | skip
    cases e3
    cases r1
    cases r2
    obtain ⟨hm, q5⟩ := ite_stuck q4
    simp only [Bool.and_eq_true] at hm
    obtain ⟨b1, b2⟩ := mid_ok hm.1
    obtain ⟨b3, b4⟩ := mid_ok hm.2
    exact ⟨i, j, rfl, ⟨b1, b2, b3, b4⟩, q5 _ H2 g2 .refl S2 yld_rng⟩
theorem e_zip {a b : ME} {x y : Expr} {elts : List Expr} {k : Nat} {p pos tpos : Pos} (C : Ctx G cla n W FN N sc sct X) (hg : glB sc "zip" = true) (hx : plainX x = true) (hy : plainX y = true) (ha : Snd G cla n W X x a) (hb : Snd G cla n W X y b) : PI X (.Tuple elts k tpos) (.Call (.Name "zip" p) [x, y] [] pos) (tI X.K cla W (EvI G n (.zip a b))) :=
  PI.imp (RZ.pi_zipA (gl_of C hg) (C.free "zip" (by decide)) (pa_cons ha.v (pa_cons hb.v pa_nil (star_of hy)) (star_of hx)) (star_of hx) (by rw [star_of hy]; rfl)) fun σ H R ⟨g, τ, m, S, q⟩ => by
    refine ⟨g, τ, m, S, Aft.bind (R2 := fun _ _ _ g J xs => Yld X.K cla J g xs) q (fun _ _ _ _ _ _ _ _ r => r) fun xd m1 xv H1 g1 e E1 S1 r1 q1 => ?_⟩
    refine ⟨g1, τ, m1, S1, Aft.bind (R2 := fun _ _ _ g J xs => Yld X.K cla J g xs) q1 (fun _ _ _ _ _ _ _ _ r => r) fun yd m2 yv H2 g2 e E2 S2 r2 q2 => ?_⟩
    obtain ⟨xs, e2, q3⟩ := out_opt q2
    obtain ⟨ys, e3, q4⟩ := out_opt q3
    have r1 : VR X.K g2 xv xd := VR.mono E2.le r1
    have r2 : VR X.K g2 yv yd := r2
    obtain ⟨hk, q5⟩ := ite_stuck q4
    rcases items_eq e2 with rfl | rfl <;> rcases items_eq e3 with rfl | rfl
    · obtain ⟨b1, vs, rfl, sq, _⟩ := PkR.tup (σ := σ) (τ := τ) (.inl r1) S2
      obtain ⟨b2, ws, rfl, sq2, _⟩ := PkR.tup (σ := σ) (τ := τ) (.inl r2) S2
      exact ⟨_, _, _, _, rfl, .inr ⟨sq, sq2, q5 _ H2 g2 .refl S2 (yld_zipT r1 r2)⟩⟩
    · cases hk
    · cases hk
    · obtain ⟨b1, vs, rfl, sq, _⟩ := PkR.lst (σ := σ) (τ := τ) (.inl r1) S2
      obtain ⟨b2, ws, rfl, sq2, _⟩ := PkR.lst (σ := σ) (τ := τ) (.inl r2) S2
      exact ⟨_, _, _, _, rfl, .inl ⟨.inl sq, .inl sq2, q5 _ H2 g2 .refl S2 (yld_zipL r1 r2)⟩⟩
end
end P3
set_option Elab.async false
set_option linter.all false
set_option maxRecDepth 100000
set_option maxHeartbeats 0
/-! P3L: list comprehensions; every expression -/
namespace P3
open PySem L2
section
variable {K : PySem.W.Frag} {cla : String → Addr} {H H1 H0 : Hp} {g g0 g1 : Gh} {σ σ' : St} {τ τ' : Tau} {m : Mem} {vs : List Nat}
theorem wipe_get : ∀ {vs : List Nat} {σ : St} {j : Nat}, (wipe σ vs)[j]? = if j ∈ vs ∧ j < σ.length then some none else σ[j]?
  | [], σ, j => by simp [wipe]
  | v :: vs, σ, j => by
    show ((wipe σ vs).set v none)[j]? = _
    have ih := wipe_get (vs := vs) (σ := σ) (j := j)
    by_cases e : v = j
    · subst e
      by_cases hl : v < σ.length
      · rw [List.getElem?_set_self (by rw [wipe_length]; exact hl), if_pos ⟨List.mem_cons_self, hl⟩]
      · rw [List.getElem?_eq_none (by rw [List.length_set, wipe_length]; omega), if_neg (fun z => hl z.2), List.getElem?_eq_none (by omega)]
    · rw [List.getElem?_set_ne e, ih]
      by_cases hm : j ∈ vs ∧ j < σ.length
      · rw [if_pos hm, if_pos ⟨List.mem_cons_of_mem _ hm.1, hm.2⟩]
      · rw [if_neg hm, if_neg (fun z => hm ⟨(List.mem_cons.mp z.1).resolve_left (fun q => e q.symm), z.2⟩)]
theorem wipeT_get : ∀ {vs : List Nat} {σ : Tau} {j : Nat}, (wipeT σ vs)[j]? = if j ∈ vs ∧ j < σ.length then some none else σ[j]?
  | [], σ, j => by simp [wipeT]
  | v :: vs, σ, j => by
    show ((wipeT σ vs).set v none)[j]? = _
    have ih := wipeT_get (vs := vs) (σ := σ) (j := j)
    have hlen : ∀ vs : List Nat, (wipeT σ vs).length = σ.length := fun vs => by
      induction vs with
      | nil => rfl
      | cons v vs ih => show ((wipeT σ vs).set v none).length = _; rw [List.length_set, ih]
    by_cases e : v = j
    · subst e
      by_cases hl : v < σ.length
      · rw [List.getElem?_set_self (by rw [hlen]; exact hl), if_pos ⟨List.mem_cons_self, hl⟩]
      · rw [List.getElem?_eq_none (by rw [List.length_set, hlen]; omega), if_neg (fun z => hl z.2), List.getElem?_eq_none (by omega)]
    · rw [List.getElem?_set_ne e, ih]
      by_cases hm : j ∈ vs ∧ j < σ.length
      · rw [if_pos hm, if_pos ⟨List.mem_cons_of_mem _ hm.1, hm.2⟩]
      · rw [if_neg hm, if_neg (fun z => hm ⟨(List.mem_cons.mp z.1).resolve_left (fun q => e q.symm), z.2⟩)]
theorem wipeT_length : ∀ (σ : Tau) (vs : List Nat), (wipeT σ vs).length = σ.length
  | _, [] => rfl
  | σ, v :: vs => by show ((wipeT σ vs).set v none).length = _; rw [List.length_set, wipeT_length σ vs]
theorem SR.wiped (S : SR K cla H g σ τ m) (vs : List Nat) : SR K cla H g (wipe σ vs) (wipeT τ vs) m := by
  refine S.weak (by rw [wipe_length, wipeT_length]; exact S.len) fun i s e => ?_
  rw [wipeT_get] at e
  by_cases hm : i ∈ vs ∧ i < τ.length
  · rw [if_pos hm] at e; cases e
  · rw [if_neg hm] at e
    refine ⟨e, ?_⟩
    rw [wipe_get, if_neg (by rw [S.len]; exact hm)]
/-- back from a turn -/
theorem SR.turnBack (S' : SR K cla H g σ' τ' m) (b : SameBut vs (wipe σ vs) σ' (wipeT τ vs) τ') : SR K cla H g (wipe σ vs) (wipeT τ vs) m := by
  refine S'.weak (by rw [← b.1, ← b.2.1]; exact S'.len) fun i s e => ?_
  have hn : i ∉ vs := fun hi => by
    rw [wipeT_get] at e
    by_cases hl : i < τ.length
    · rw [if_pos ⟨hi, hl⟩] at e; cases e
    · rw [if_neg (fun z => hl z.2), List.getElem?_eq_none (by omega)] at e; cases e
  exact ⟨(b.2.2 i hn).2.trans e, ((b.2.2 i hn).1).symm⟩
theorem wipe_same {vs : List Nat} (b : SameBut vs (wipe σ vs) σ' (wipeT τ vs) τ') : wipe σ' vs = wipe σ vs := by
  have hl : σ'.length = σ.length := by rw [b.1, wipe_length]
  refine List.ext_getElem? fun j => ?_
  rw [wipe_get]
  by_cases hj : j ∈ vs
  · rw [hl]
    by_cases hl2 : j < σ.length
    · rw [if_pos ⟨hj, hl2⟩, wipe_get, if_pos ⟨hj, hl2⟩]
    · rw [if_neg (fun z => hl2 z.2), List.getElem?_eq_none (by omega), List.getElem?_eq_none (by rw [wipe_length]; omega)]
  · rw [if_neg (fun z => hj z.1)]
    exact (b.2.2 j hj).1
/-- behind the comprehension -/
theorem SR.unwiped (S0 : SR K cla H0 g0 σ τ m') (S : SR K cla H g (wipe σ vs) (wipeT τ vs) m) (le : g0.le g) (hn : vs.all (noOwn τ) = true) : SR K cla H g σ τ m := by
  refine ⟨S.toSH, S0.len, fun i s e => ?_⟩
  by_cases hi : i ∈ vs
  · obtain ⟨v, e1, r⟩ := S0.slot i s e
    have := List.all_eq_true.mp hn i hi
    unfold noOwn at this
    rw [e] at this
    cases s with
    | val d => exact ⟨v, e1, VR.mono le r⟩
    | own c => cases this
  · have e2 : (wipeT τ vs)[i]? = some (some s) := by rw [wipeT_get, if_neg (fun z => hi z.1)]; exact e
    obtain ⟨v, e3, r⟩ := S.slot i s e2
    refine ⟨v, ?_, r⟩
    rw [wipe_get, if_neg (fun z => hi z.1)] at e3
    exact e3
/-- a new container that nobody owns is written -/
theorem Ext.writeNew {D : Addr} {o : HO} (E : Ext H0 g0 H g) (h0 : H0 D = none) : Ext H0 g0 (upd H D o) g where
  le := E.le
  keep := fun b u e n => by
    rw [upd_ne (ne_of_none e h0)]
    exact E.keep b u e n
  there := fun b e => by
    by_cases z : b = D
    · rw [z, upd_same]; intro q; cases q
    · rw [upd_ne z]; exact E.there b e
  new := E.new
  nfr := E.nfr
theorem SR.writeNew {D : Addr} {o : HO} (S : SR K cla H g σ τ m) (nw : ∀ w, g.ow w ≠ some D) (nf : g.fz D = none) : SR K cla (upd H D o) g σ τ m :=
  S.up (F := g.fz) (fun w b q => upd_ne (fun z => nw w (z ▸ q))) (fun _ _ q => q) (fun b u q => by rw [upd_ne (fun z => by rw [z, nf] at q; cases q)]; exact S.fz b u q) S.nfz
/-- what stands apart stays apart -/
theorem Ext.apart {D : Addr} {o : HO} (E : Ext H g H1 g1) (hD : H D = some o) (nw : ∀ w, g.ow w ≠ some D) (nf : g.fz D = none) : H1 D = some o ∧ (∀ w, g1.ow w ≠ some D) ∧ g1.fz D = none := by
  refine ⟨E.keep D o hD nw, fun w e => ?_, ?_⟩
  · rcases E.new w D e with ⟨w0, q⟩ | q
    · exact nw w0 q
    · rw [hD] at q; cases q
  · cases e : g1.fz D with
    | none => rfl
    | some u =>
      rcases E.nfr D (by rw [e]; intro z; cases z) with q | q | ⟨w, q⟩
      · exact absurd nf q
      · rw [hD] at q; cases q
      · exact absurd q (nw w)
end
theorem noexc_ok {α : Type} {o : Out α} {a : α} {m : Mem} (h : noexc o = .ok a m) : o = .ok a m := by
  cases o with
  | ok b m' => exact h
  | stuck => cases h
  | exc e m' => cases h
theorem lcEv_noexc {asg : D → Tau → Option Tau} {c : Tau → Mem → Out Bool} {el : Tau → Mem → Out D} : ∀ {xs : List D} {τ : Tau} {m : Mem} {acc : List D} {e : Exn} {m' : Mem}, lcEv asg (fun τ m => noexc (c τ m)) (fun τ m => noexc (el τ m)) xs τ m acc ≠ .exc e m'
  | [], _, _, _, _, _, h => by cases h
  | x :: xs, τ, m, acc, e, m', h => by
    unfold lcEv at h
    cases ha : asg x τ with
    | none => rw [ha] at h; cases h
    | some τ' =>
      rw [ha] at h
      simp only at h
      cases hc : c τ' m with
      | stuck => rw [hc] at h; cases h
      | exc e m => rw [hc] at h; cases h
      | ok b m1 =>
        rw [hc] at h
        simp only [noexc, Out.bind] at h
        cases b with
        | false =>
          rw [if_neg (by decide)] at h
          exact lcEv_noexc h
        | true =>
          rw [if_pos rfl] at h
          cases he : el τ' m1 with
          | stuck => rw [he] at h; cases h
          | exc e m => rw [he] at h; cases h
          | ok d m2 =>
            rw [he] at h
            simp only at h
            split at h
            · exact lcEv_noexc h
            · cases h
section
variable {G : GE} {cla : String → Addr} {n : Nat} {W : WX} {FN : Tb} {N : List Str} {sc sct : Scope} {X : Cx}
abbrev WF : WX := fun _ _ _ _ => False
theorem Ctx.blk (C : Ctx G cla n W FN N sc sct X) (s : Shared) (H : Hp) (scope : Scope) (cl : List (Str × Addr)) (a : Addr) (fp : List Addr) : Ctx G cla n WF FN N (relS scope sc) scope (X.blk s H scope (compEnvC scope cl a X.env) fp) where
  calm := C.calm
  room := C.room
  names := C.names
  scope := by
    show relS scope X.env.scope = _
    rw [C.scope]
  nd := C.nd
  pass := fun σ pins H s e s' I c => by
    obtain ⟨_, _, _, _, _, _, _, _, _, _, _, _, z⟩ := c
    exact z
  own := PassesOwn.never
  fn := C.fn
  fa := C.fa
  fm := C.fm
  mkr := C.mkr
  con := C.con
  tab := C.tab
  free := C.free
  tgt := fun x h => by
    show Loc (relS scope X.env.scope) x ∧ ((scope.names.lookup x == some .cell) = true ∨ (relS scope X.env.scope).names.lookup x = some .local)
    unfold locB at h
    split at h
    · rename_i e
      have := lookup_relS_keep (sc := X.env.scope) (k := .local) (by decide) e
      exact ⟨.inl this, .inr this⟩
    · rename_i e
      have := lookup_relS_keep (sc := X.env.scope) (k := .cell) (by decide) e
      exact ⟨.inr this, .inl (by rw [e]; rfl)⟩
    · cases h
theorem all_tail {xs : List D} {i : Nat} {x : D} {r : List D} (h : xs.drop i = x :: r) : xs[i]? = some x ∧ xs.drop (i + 1) = r ∧ i < xs.length := by
  have hl : i < xs.length := by
    by_cases z : i < xs.length
    · exact z
    · rw [List.drop_eq_nil_of_le (by omega)] at h; cases h
  rw [List.drop_eq_getElem_cons hl] at h
  injection h with h1 h2
  exact ⟨by rw [List.getElem?_eq_getElem hl, h1], h2, hl⟩
/-- the reading of a comprehension -/
theorem lc_read {K : PySem.W.Frag} {e : ME} {tg : Tgt} {it : MI} {cond : MEs} {own : List (String × Nat)} {wi : TI} {tt : TT} {te : TE} {vs : List Nat} (hvs : vs = own.map (·.2)) (hw : tg.within vs = true)
    (hi : ∀ σ H R, tI K cla W (EvI G n it) σ H R → wi σ H R) (ht : ∀ σ H Q, tT K cla WF (evalT G.consts (callN G n) cond) σ H Q → tt σ H Q) (he : ∀ σ H Q, tV K cla WF (fun τ m => toV (EvE G n e τ m)) σ H Q → te σ H Q) {σ : St} {H : Hp} {Q : VK}
    (h : tE K cla W (EvE G n (.lc e tg it cond own)) σ H Q) : tLc wi (tGt K tg) tt te vs σ H Q := by
  subst hvs
  obtain ⟨g, τ, m, S, q⟩ := h
  refine hi σ H _ ⟨g, τ, m, S, Aft.bind (R2 := RvR K) q (fun H1 g1 E H g v r _ rr => rr.base E) fun xs m1 J H1 g1 _ E1 S1 Y q1 => ?_⟩
  obtain ⟨hno, q2⟩ := ite_stuck q1
  have Y : Yld K cla J g1 xs := Y
  intro D hD
  have hR : ∃ ds mE, lcEv (tgEv tg) (fun τ m => noexc (evalT G.consts (callN G n) cond τ m)) (fun τ m => noexc (toV (evalE G.consts (callN G n) e τ m))) xs (wipeT τ (own.map (·.2))) m1 [] = .ok ds mE := by
    cases hl : lcEv (tgEv tg) (fun τ m => noexc (evalT G.consts (callN G n) cond τ m)) (fun τ m => noexc (toV (evalE G.consts (callN G n) e τ m))) xs (wipeT τ (own.map (·.2))) m1 [] with
    | stuck => rw [hl] at q2; exact q2.elim
    | exc e m => exact absurd hl lcEv_noexc
    | ok ds mE => exact ⟨ds, mE, rfl⟩
  obtain ⟨ds, mE, hR⟩ := hR
  rw [hR] at q2
  let P : Nat → Hp → Prop := fun i H => ∃ gi mi acc av, Ext H1 g1 H gi ∧ SR K cla H gi (wipe σ (own.map (·.2))) (wipeT τ (own.map (·.2))) mi ∧ H D = some (.lst av) ∧ VRs K gi av acc ∧ (∀ w, gi.ow w ≠ some D) ∧ gi.fz D = none ∧
    lcEv (tgEv tg) (fun τ m => noexc (evalT G.consts (callN G n) cond τ m)) (fun τ m => noexc (toV (evalE G.consts (callN G n) e τ m))) (xs.drop i) (wipeT τ (own.map (·.2))) mi acc = .ok ds mE
  refine ⟨fun i k H => k = xs.length - i ∧ i ≤ xs.length ∧ P i H, ⟨xs.length, by simp, Nat.zero_le _, g1, m1, [], [], Ext.new' hD, (S1.new hD).wiped _, upd_same, .nil, S1.none_ow hD, S1.none_fz hD, by rw [List.drop_zero]; exact hR⟩, ?_⟩
  rintro i k H2 ⟨rfl, hi2, g2, m2, acc, av, E2, S2, hD2, rA, nw, nf, hl⟩
  cases hd : xs.drop i with
  | nil =>
    have hlen : xs.length ≤ i := by
      by_cases z : i < xs.length
      · rw [List.drop_eq_getElem_cons z] at hd; cases hd
      · omega
    refine .inl ⟨(Y i H2 g2 _ _ m2 E2.le S2).2 hlen, ?_⟩
    rw [hd] at hl
    cases hl
    have H0D : H1 D = none := hD
    exact q2 _ H2 g2 E2 (S1.unwiped S2 E2.le hno) ⟨D, rfl, ⟨av, hD2, rA⟩, nf, nw, .inl H0D⟩
  | cons x r =>
    obtain ⟨hx, hr, hlt⟩ := all_tail hd
    obtain ⟨go, yl⟩ := (Y i H2 g2 _ _ m2 E2.le S2).1 x hx
    refine .inr ⟨go, P (i + 1), fun H' p' => ⟨xs.length - (i + 1), by omega, rfl, hlt, p'⟩, fun xv H3 y => ?_⟩
    obtain ⟨g3, E3, S3, rx⟩ := yl xv H3 y
    rw [hd] at hl
    unfold lcEv at hl
    cases ha : tgEv tg x (wipeT τ (own.map (·.2))) with
    | none => rw [ha] at hl; cases hl
    | some τ' =>
      rw [ha] at hl
      simp only at hl
      obtain ⟨dD, dw, df⟩ := E3.apart hD2 nw nf
      refine tgt_ok (own := own.map (·.2)) (σ0 := wipe σ (own.map (·.2))) (τ0 := wipeT τ (own.map (·.2))) (H0 := H3) (g0 := g3) ha S3 rx .refl .refl hw fun σ4 g4 E4 S4 b4 => ?_
      refine ⟨wipe_same b4, ?_⟩
      cases hc : evalT G.consts (callN G n) cond τ' m2 with
      | stuck => rw [hc] at hl; cases hl
      | exc e m => rw [hc] at hl; cases hl
      | ok b m5 =>
        rw [hc] at hl
        simp only [noexc, Out.bind] at hl
        refine ht σ4 H3 _ ⟨g4, τ', m2, S4, ?_⟩
        rw [hc]
        intro b' H5 g5 E5 S5 eb
        cases (show b' = b from eb)
        have E35 : Ext H2 g2 H5 g5 := E3.trans (E4.trans E5)
        obtain ⟨dD5, dw5, df5⟩ := E35.apart hD2 nw nf
        cases b with
        | false =>
          rw [if_neg (by decide)] at hl
          rw [if_neg (by decide)]
          exact ⟨g5, m5, acc, av, E2.trans E35, S5.turnBack b4, dD5, rA.mono E35.le, dw5, df5, by rw [hr]; exact hl⟩
        | true =>
          rw [if_pos rfl] at hl
          rw [if_pos rfl]
          cases hee : toV (evalE G.consts (callN G n) e τ' m5) with
          | stuck => rw [hee] at hl; cases hl
          | exc e m => rw [hee] at hl; cases hl
          | ok d m6 =>
            rw [hee] at hl
            simp only at hl
            refine he σ4 H5 _ ⟨g5, τ', m5, S5, ?_⟩
            show Aft _ _ _ _ _ _ _ _ (toV (evalE G.consts (callN G n) e τ' m5)) _
            rw [hee]
            intro yv H6 g6 E6 S6 ry
            have E26 : Ext H2 g2 H6 g6 := E35.trans E6
            obtain ⟨dD6, dw6, df6⟩ := E26.apart hD2 nw nf
            split at hl
            · rename_i hlim
              have rA6 : VRs K g6 av acc := rA.mono E26.le
              refine ⟨av, dD6, by rw [rA6.length]; exact Nat.lt_of_lt_of_le hlim lim_le, g6, m6, acc ++ [d], av ++ [yv], (E2.trans E26).writeNew hD, (S6.turnBack b4).writeNew dw6 df6, upd_same, rA6.append (.one ry), dw6, df6, by rw [hr]; exact hl⟩
            · cases hl
end
end P3
set_option Elab.async false
set_option linter.all false
set_option maxRecDepth 100000
set_option maxHeartbeats 0
/-! P3U: instances: expressions -/
namespace P3
open PySem PySem.Spec PyProof.Rows L2
section
variable {X : Cx} {CX : CXT} {k : Nat} {f C : Addr} {fd : FuncData} {ps : List Str} {sp : Sp} {dvs : List V} {ds : List Value} {E : L2.St → XK} {x m : Str} {p pos apos : Pos} {e o : Expr} {es : List Expr} {ta : TE} {t : TA}
/-- o.m(..), what is raised wished for at the caller's slots -/
def tMethSD (C : Addr) (m : Str) (sp : Sp) (dvs : List V) (E : L2.St → XK) (ta : TE) (t : TA) : TE := fun σ H Q => ta σ H fun x H1 => ∃ a dx fs, x = .ref a ∧ H1 a = some (.ins C dx fs) ∧ fs.lookup m = none ∧
  t σ H1 fun vs H2 => sp (x :: (vs ++ dvs)) H2 Q (E σ)
theorem pe_methSD (he : PE X o ta) (c : Cls X.K C) (hm : Meth X.K C m f) (F : FnOk X.prog X.w X.K X.mg X.base CX k f fd ps sp) (hr : Room k X.A) (hb : Binds X.K fd ps ds) (hd : Vals dvs ds) (hx : ∀ σ, PassesAt CX X σ (E σ)) (ha : PA X (e :: es) t)
    (hbase : attributeBase o m X.env (eval o X.env) = eval o X.env) (hline : (apos.endLine == pos.line) = true)
    (hfew : methodCallForm ((e :: es).length + ([] : List Keyword).length) (backTo pos (starEach (e :: es) X.env)) (backToKw pos (keywordEach [] X.env)) = true)
    (hst : starEach (e :: es) X.env = (false, eval e X.env) :: starEach es X.env) (hpl : (backTo pos (starEach es X.env)).any (·.1) = false) :
    PE X (.Call (.Attribute o m apos) (e :: es) [] pos) (tMethSD C m sp dvs E ta t) := by
  refine ⟨fun pins s σ H Q I h => ?_⟩
  rw [arm_eval_Call, hbase]
  refine wpAny_bind (thn (he.run pins s σ H _ I h) fun u s1 ⟨x, H1, I1, rx, a, dx, fs, ex, ea, l, q⟩ => ?_)
  subst ex
  obtain rfl : u = Value.ref a := rx
  refine wpAny_bind (wpAny_standAt ?_)
  have hpos : methodCallPos true o X.env apos pos = pure pos := by unfold methodCallPos; simp [hline]
  unfold methodCall
  rw [hfew]
  refine wpAny_bind (wpAny_holding (getmeth_ok I1 ea c hm l ?_))
  refine wpAny_bind (wpAny_of_eq hpos ?_)
  refine PySem.W.callWith_K (first := [.ref a]) (h₀ := X.base) I.ok.mod.kin hm.kp (thn (ha.run pos pins s1 σ H1 _ I1 q) fun us s2 ⟨vs, H2, I2, r, q2⟩ => ⟨I2.kIn, ?_⟩) hst hpl
  exact run_fnSD (us := .ref a :: us) (vs := .ref a :: vs) F hr hb hd (hx σ) I2 (.cons rfl r) q2
theorem pe_methSD0 (he : PE X o ta) (c : Cls X.K C) (hm : Meth X.K C m f) (F : FnOk X.prog X.w X.K X.mg X.base CX k f fd ps sp) (hr : Room k X.A) (hb : Binds X.K fd ps ds) (hd : Vals dvs ds) (hx : ∀ σ, PassesAt CX X σ (E σ))
    (hbase : attributeBase o m X.env (eval o X.env) = eval o X.env) (hline : (apos.endLine == pos.line) = true) :
    PE X (.Call (.Attribute o m apos) [] [] pos) (tMethSD C m sp dvs E ta tNil) := by
  refine ⟨fun pins s σ H Q I h => ?_⟩
  rw [arm_eval_Call, hbase]
  refine wpAny_bind (thn (he.run pins s σ H _ I h) fun u s1 ⟨x, H1, I1, rx, a, dx, fs, ex, ea, l, q⟩ => ?_)
  subst ex
  obtain rfl : u = Value.ref a := rx
  refine wpAny_bind (wpAny_standAt ?_)
  have hpos : methodCallPos true o X.env apos pos = pure pos := by unfold methodCallPos; simp [hline]
  have hfew : methodCallForm (([] : List Expr).length + ([] : List Keyword).length) (backTo pos (starEach [] X.env)) (backToKw pos (keywordEach [] X.env)) = true := rfl
  unfold methodCall
  rw [hfew]
  refine wpAny_bind (wpAny_holding (getmeth_ok I1 ea c hm l ?_))
  refine wpAny_bind (wpAny_of_eq hpos ?_)
  exact PySem.W.callWith_K0 (first := [.ref a]) I1.kIn hm.kp (run_fnSD (us := [.ref a]) (vs := [.ref a]) F hr hb hd (hx σ) I1 (.cons rfl .nil) q)
/-- C(..), what is raised wished for at the caller's slots -/
def tMakeSD (C : Addr) (sp : Sp) (dvs : List V) (E : L2.St → XK) (t : TA) : TE := fun σ H Q => t σ H fun vs H1 => ∀ x dx, H1 x = none → H1 dx = none → dx ≠ x →
  sp (.ref x :: (vs ++ dvs)) (upd (upd H1 dx (.own x)) x (.ins C dx [])) (fun v H2 => v = .non ∧ Q (.ref x) H2) (E σ)
theorem run_makeSD {pins : List (Addr × Obj)} {σ : L2.St} {H : Hp} {s : Shared} {Q : VK} {us : List Value} {vs : List V} (M : Mk X.K C f) (F : FnOk X.prog X.w X.K X.mg X.base CX k f fd ps sp) (hr : Room (k + 1) X.A) (hb : Binds X.K fd ps ds) (hd : Vals dvs ds)
    (hx : PassesAt CX X σ (E σ)) (I : Inv X pins σ H s) (r : Vals vs us)
    (h : ∀ x dx, H x = none → H dx = none → dx ≠ x → sp (.ref x :: (vs ++ dvs)) (upd (upd H dx (.own x)) x (.ins C dx [])) (fun v H2 => v = .non ∧ Q (.ref x) H2) (E σ)) :
    wpAny (model X.prog X.w) X.A (call (.ref C) us) (EP X pins σ Q) X.xe s := by
  have hq := h (s.heap.objs.size + 1) s.heap.objs.size (I.hok.fresh (Nat.le_succ _)) (I.hok.fresh (Nat.le_refl _)) (Nat.ne_of_lt (Nat.lt_succ_self _))
  have I2 := Inv.made (C := C) I
  have r2 : Vals (V.ref (s.heap.objs.size + 1) :: (vs ++ dvs)) (Value.ref (s.heap.objs.size + 1) :: (us ++ ds)) := .cons rfl (r.append hd)
  have hl : (Value.ref (s.heap.objs.size + 1) :: us ++ ds).length = ps.length := by
    have e := r2.length
    rw [F.len _ _ _ _ hq] at e
    exact e.symm
  refine wpAny_call (make_map (f := f) I.kIn M.makes M.init (beq_iff_eq.mp M.fn) (codeAny_mono (F.run _ X.stack _ _ ⟨Value.ref (s.heap.objs.size + 1) :: us, []⟩ (Value.ref (s.heap.objs.size + 1) :: (us ++ ds)) _ _ (E σ) (hr.make C us [])
    (I2.env0.make C us []) (hb _ (Value.ref (s.heap.objs.size + 1) :: us) I2.kIn hl) r2 hq) fun r s' hq' => ?_))
  cases r with
  | error e => exact hx pins _ _ e s' I2 hq'
  | ok fl =>
    cases fl with
    | ret u =>
      obtain ⟨v, H', I3, rv, ev, q3⟩ := I2.after hq'
      subst ev
      exact ⟨rv, ⟨V.ref (s.heap.objs.size + 1), H', I3, rfl, q3⟩⟩
    | next => exact False.elim hq'
    | brk => exact False.elim hq'
    | cont => exact False.elim hq'
theorem pe_makeSD (M : Mk X.K C f) (F : FnOk X.prog X.w X.K X.mg X.base CX k f fd ps sp) (hr : Room (k + 1) X.A) (hg : Gl X x) (hm : X.mg x = some (.ref C)) (hb : Binds X.K fd ps ds) (hd : Vals dvs ds) (hx : ∀ σ, PassesAt CX X σ (E σ))
    (ha : PA X (e :: es) t) (hdb : (x == ("__debug__" : Str)) = false) (he : starEach (e :: es) X.env = (false, eval e X.env) :: starEach es X.env) (hpl : (backTo pos (starEach es X.env)).any (·.1) = false) :
    PE X (.Call (.Name x p) (e :: es) [] pos) (tMakeSD C sp dvs E t) := by
  refine ⟨fun pins s σ H Q I h => ?_⟩
  refine wpAny_Call_Name_kw (ld_glob I hg hm ?_ hdb)
  refine PySem.W.callWith_K (h₀ := X.base) I.ok.mod.kin M.kp (thn (ha.run pos pins s σ H _ I h) fun us s1 ⟨vs, H1, I1, r, q⟩ => ⟨I1.kIn, ?_⟩) he hpl
  exact run_makeSD M F hr hb hd (hx σ) I1 r q
theorem pe_makeSD0 (M : Mk X.K C f) (F : FnOk X.prog X.w X.K X.mg X.base CX k f fd ps sp) (hr : Room (k + 1) X.A) (hg : Gl X x) (hm : X.mg x = some (.ref C)) (hb : Binds X.K fd ps ds) (hd : Vals dvs ds) (hx : ∀ σ, PassesAt CX X σ (E σ))
    (hdb : (x == ("__debug__" : Str)) = false) : PE X (.Call (.Name x p) [] [] pos) (tMakeSD C sp dvs E tNil) := by
  refine ⟨fun pins s σ H Q I h => ?_⟩
  refine wpAny_Call_Name_kw (ld_glob I hg hm ?_ hdb)
  exact PySem.W.callWith_K0 I.kIn M.kp (run_makeSD (us := []) M F hr hb hd (hx σ) I .nil h)
end
section
variable {G : GE} {cla : String → Addr} {n : Nat} {W : WX} {FN : Tb} {N : List Str} {sc sct : Scope} {X : Cx}
theorem base_of {x : Expr} {m : Str} {env : Env} (h : recvX x = true) : attributeBase x m env (eval x env) = eval x env := by
  cases x <;> first | rfl | cases h
theorem VR.locAt {K : PySem.W.Frag} {g : Gh} {v : V} {l : Nat} (h : VR K g v (.loc l)) : ∃ a, v = .ref a ∧ g.ow (.loc l) = some a := by
  cases h with
  | loc e => exact ⟨_, rfl, e⟩
/-- where an instance stands -/
theorem inst_at {K : PySem.W.Frag} {H : Hp} {g : Gh} {σ : L2.St} {τ : Tau} {m : Mem} (S : SR K cla H g σ τ m) {v : V} {x : D} (r : VR K g v x) {l : Nat} {c : String} {fs : List (String × Slot)} (hx : x = .loc l) (hm : m[l]? = some (.inst c fs)) :
    ∃ a dx fv, v = .ref a ∧ g.ow (.loc l) = some a ∧ H a = some (.ins (cla c) dx fv) ∧ FsR K H g l fv fs ∧ (fs.map (·.1)).Nodup ∧ fs.length < 900 := by
  subst hx
  obtain ⟨a, rfl, ha⟩ := r.locAt
  obtain ⟨a', dx, fv, ha', hH, hF, nd, hlen⟩ := S.instAt hm
  rw [ha] at ha'; cases ha'
  exact ⟨a, dx, fv, rfl, ha, hH, hF, nd, hlen⟩
theorem fldEv_eq {m : Mem} {c f : String} {x d : D} (h : fldEv m c f x = some d) : ∃ l fs, x = .loc l ∧ m[l]? = some (.inst c fs) ∧ fs.lookup f = some (.val d) := by
  unfold fldEv at h
  split at h
  · rename_i l
    split at h
    · rename_i c' fs e
      split at h
      · rename_i hc
        split at h
        · rename_i d' e2
          cases h
          exact ⟨l, fs, rfl, hc ▸ e, e2⟩
        · cases h
      · cases h
    · cases h
  · cases h
theorem e_fld {c f : String} {a : ME} {x : Expr} {y : Str} {p : Pos} (C : Ctx G cla n W FN N sc sct X) (hF : FN.fa c f = true) (hy : Str.ofString f = y) (hx : recvX x = true) (ha : Snd G cla n W X x a) : PE X (.Attribute x y p) (tE X.K cla W (EvE G n (.fld c a f))) := by
  subst hy
  obtain ⟨hc, hn⟩ := C.fa c f hF
  refine PE.imp (pe_fld ha.v (base_of hx)) fun σ H Q ⟨g, τ, m, S, q⟩ => ?_
  refine ⟨g, τ, m, S, Aft.bind (R2 := RvR X.K) q (fun H1 g1 E H g v r _ rr => rr.base E) fun xd m1 xv H1 g1 _ E1 S1 r1 q1 => ?_⟩
  obtain ⟨d, e, q2⟩ := out_opt q1
  obtain ⟨l, fs, hx, hm, hl⟩ := fldEv_eq e
  obtain ⟨b, dx, fv, rfl, hb, hH, hFs, _⟩ := inst_at S1 r1 hx hm
  obtain ⟨v, hv, hs⟩ := hFs.get hl
  exact ⟨b, cla c, dx, fv, v, rfl, hH, hc, hn, hv, q2 v H1 g1 .refl S1 hs⟩
theorem instOf_eq {m : Mem} {c f : String} {x : D} {u : Unit} (h : instOf m c f x = some u) : ∃ l fs, x = .loc l ∧ m[l]? = some (.inst c fs) ∧ fs.lookup f = none := by
  unfold instOf at h
  split at h
  · rename_i l
    split at h
    · rename_i c' fs e
      split at h
      · rename_i hc
        exact ⟨l, fs, rfl, hc.1 ▸ e, hc.2⟩
      · cases h
    · cases h
  · cases h
theorem call_params {f : String} {fn : Fn} {ds : List D} {m : Mem} {K : PySem.W.Frag} {H : Hp} {g : Gh} {σ : L2.St} {τ : Tau} {Q : VK} {R : Hp → Gh → V → Rv → Prop} (hf : G.fns.lookup f = some fn) (q : Aft K cla R H g σ τ W (callN G n f ds m) Q) : ds.length = fn.params := by
  cases n with
  | zero => exact q.elim
  | succ k =>
    simp only [callN, hf] at q
    exact (ite_stuck q).1
theorem e_meth {c m key : String} {o : ME} {es : MEs} {x : Expr} {y : Str} {z : Expr} {zs : List Expr} {ap p : Pos} (C : Ctx G cla n W FN N sc sct X) (hF : FN.fm c m key = true) (hy : Str.ofString m = y) (hl : (ap.endLine == p.line) = true) (hx : recvX x = true) (hlen : zs.length < 20) (hp : (z :: zs).all plainX = true)
    (ho : Snd G cla n W X x o) (h : PA X (z :: zs) (tVs X.K cla W (EvEs G n es))) : PE X (.Call (.Attribute x y ap) (z :: zs) [] p) (tE X.K cla W (EvE G n (.meth o c m key es))) := by
  subst hy
  obtain ⟨fn, a, hf, hc, hm, ⟨fd, ps, hb, F⟩⟩ := C.fm c m key hF
  have hp2 : plainX z = true ∧ zs.all plainX = true := by simpa [List.all_cons] using hp
  have hfew : methodCallForm ((z :: zs).length + ([] : List Keyword).length) (backTo p (starEach (z :: zs) X.env)) (backToKw p (keywordEach [] X.env)) = true := by
    unfold methodCallForm
    have h1 : (backTo p (starEach (z :: zs) X.env)).all (fun x => !x.1) = true := by
      have := stars_of (env := X.env) (pos := p) hp
      rw [List.all_eq_true]
      intro q hq
      rw [List.any_eq_false] at this
      have := this q hq
      simpa using this
    have h2 : decide ((z :: zs).length + ([] : List Keyword).length + (if ([] : List Keyword).isEmpty then 0 else 1) < 30) = true := by simp; omega
    have h3 : (backToKw p (keywordEach [] X.env)).all (·.1.isSome) = true := rfl
    have h4 : (backToKw p (keywordEach [] X.env)).isEmpty = true := rfl
    rw [h1, h3, h4]
    simp; omega
  refine PE.imp (pe_methSD (E := WE W) ho.v hc hm F C.room hb .nil C.pass h (base_of hx) hl hfew (star_of hp2.1) (stars_of hp2.2)) fun σ H Q ⟨g, τ, m0, S, q⟩ => ?_
  refine ⟨g, τ, m0, S, Aft.bind (R2 := RvR X.K) q (fun H1 g1 E H g v r _ rr => rr.base E) fun xd m1 xv H1 g1 _ E1 S1 r1 q1 => ?_⟩
  obtain ⟨u, e, q2⟩ := out_opt q1
  obtain ⟨l, fs, hxl, hml, hlk⟩ := instOf_eq e
  obtain ⟨b, dx, fv, rfl, hb1, hH, hFs, _⟩ := inst_at S1 r1 hxl hml
  refine ⟨b, dx, fv, rfl, hH, hFs.none hlk, g1, τ, m1, S1, Aft.bind (R2 := RvR X.K) q2 (fun H1 g1 E H g v r _ rr => rr.base E) fun ds m2 vs H2 g2 _ E2 S2 r2 q3 => ?_⟩
  have r1' := VR.mono E2.le r1
  rw [List.append_nil]
  exact ⟨g2.call, m2, xd :: ds, vrs_call (.cons r1' r2), S2.call, fun _ => rfl, call_params hf q3, aft_of_call S2 q3⟩
theorem e_meth0 {c m key : String} {o : ME} {x : Expr} {y : Str} {ap p : Pos} (C : Ctx G cla n W FN N sc sct X) (hF : FN.fm c m key = true) (hy : Str.ofString m = y) (hl : (ap.endLine == p.line) = true) (hx : recvX x = true)
    (ho : Snd G cla n W X x o) : PE X (.Call (.Attribute x y ap) [] [] p) (tE X.K cla W (EvE G n (.meth o c m key .nil))) := by
  subst hy
  obtain ⟨fn, a, hf, hc, hm, ⟨fd, ps, hb, F⟩⟩ := C.fm c m key hF
  refine PE.imp (pe_methSD0 (E := WE W) ho.v hc hm F C.room hb .nil C.pass (base_of hx) hl) fun σ H Q ⟨g, τ, m0, S, q⟩ => ?_
  refine ⟨g, τ, m0, S, Aft.bind (R2 := RvR X.K) q (fun H1 g1 E H g v r _ rr => rr.base E) fun xd m1 xv H1 g1 _ E1 S1 r1 q1 => ?_⟩
  obtain ⟨u, e, q2⟩ := out_opt q1
  obtain ⟨l, fs, hxl, hml, hlk⟩ := instOf_eq e
  obtain ⟨b, dx, fv, rfl, hb1, hH, hFs, _⟩ := inst_at S1 r1 hxl hml
  have q2 : Aft X.K cla (RvR X.K H1 g1) H1 g1 σ τ W (callN G n key [xd] m1) Q := q2
  refine ⟨b, dx, fv, rfl, hH, hFs.none hlk, ?_⟩
  exact ⟨g1.call, m1, [xd], vrs_call (.one r1), S1.call, fun _ => rfl, call_params hf q2, aft_of_call S1 q2⟩
/-- a maker's end at the caller's -/
theorem aft_make {c key : String} {fn : Fn} {k : Nat} {ds : List D} {vs : List V} {m1 : Mem} {H1 : Hp} {g1 : Gh} {σ : L2.St} {τ : Tau} {Q : VK} {K : PySem.W.Frag} (hn : G.fns.lookup c = none) (hk : G.makes.lookup c = some key) (hf : G.fns.lookup key = some fn) (S1 : SR K cla H1 g1 σ τ m1) (r1 : VRs K g1 vs ds)
    (q : Aft K cla (RvR K H1 g1) H1 g1 σ τ W (callN G (k + 1) c ds m1) Q) {x dx : Addr} (hx : H1 x = none) (hd : H1 dx = none) (ne : dx ≠ x) :
    spOf K cla G k key fn (.ref x :: vs) (upd (upd H1 dx (.own x)) x (.ins (cla c) dx [])) (fun v H2 => v = .non ∧ Q (.ref x) H2) (WE W σ) := by
  have S2 := S1.giveInst (cls := c) hx hd ne
  have hdn : upd H1 dx (.own x) x = none := by rw [upd_ne (Ne.symm ne)]; exact hx
  have E2 : Ext H1 g1 (upd (upd H1 dx (.own x)) x (.ins (cla c) dx [])) (g1.give (.loc m1.length) x) :=
    Ext.give ((Ext.new' hd).trans (Ext.new' hdn)) (fun l hl => by cases hl; exact S1.noLoc) (.inl hx)
  have hloc : (g1.give (.loc m1.length) x).ow (.loc m1.length) = some x := if_pos rfl
  have hz : Aft K cla (RvR K H1 g1) H1 g1 σ τ W ((callN G k key (.loc m1.length :: ds) (m1 ++ [.inst c []])).bind fun r m2 => (match r with
        | .val .non => .ok (.val (.loc m1.length)) m2
        | _ => .stuck)) Q := by
    simp only [callN, hn, hk] at q
    exact q
  refine ⟨(g1.give (.loc m1.length) x).call, m1 ++ [.inst c []], .loc m1.length :: ds, vrs_call (.cons (.loc hloc) (r1.mono E2.le)), S2.call, fun _ => rfl, ?_, ?_⟩
  · cases k with
    | zero => exact hz.elim
    | succ j =>
      cases hl : decide ((D.loc m1.length :: ds).length = fn.params) with
      | true => exact of_decide_eq_true hl
      | false =>
        exfalso
        have hl := of_decide_eq_false hl
        simp only [callN, hf] at hz
        rw [if_neg hl] at hz
        exact hz
  · have hA : Aft K cla (RvR K (upd (upd H1 dx (.own x)) x (.ins (cla c) dx [])) (g1.give (.loc m1.length) x)) (upd (upd H1 dx (.own x)) x (.ins (cla c) dx [])) (g1.give (.loc m1.length) x) σ τ W (callN G k key (.loc m1.length :: ds) (m1 ++ [.inst c []])) (fun v H2 => v = .non ∧ Q (.ref x) H2) := by
      cases hc : callN G k key (.loc m1.length :: ds) (m1 ++ [.inst c []]) with
      | stuck => rw [hc] at hz; exact hz
      | exc e m2 => rw [hc] at hz; exact fun c d H g E S r => hz c d H g (E2.trans E) S r
      | ok r m2 =>
        rw [hc] at hz
        simp only [Out.bind] at hz
        intro v H g E S rr
        cases r with
        | own c => exact hz.elim
        | val d =>
          cases d <;> first | exact hz.elim | skip
          cases rr
          exact ⟨rfl, hz (.ref x) H g (E2.trans E) S (VR.loc (E.le.loc _ _ hloc))⟩
    exact aft_of_call S2 hA
theorem e_make {c : String} {es : MEs} {x : Str} {z : Expr} {zs : List Expr} {p pos : Pos} (C : Ctx G cla n W FN N sc sct X) (hF : FN.mkr c = true) (hx : (decide (Str.ofString c = x) && glB sc x && plainName x) = true) (hp : (z :: zs).all plainX = true)
    (h : PA X (z :: zs) (tVs X.K cla W (EvEs G n es))) : PE X (.Call (.Name x p) (z :: zs) [] pos) (tE X.K cla W (EvE G n (.make c es))) := by
  simp only [Bool.and_eq_true, decide_eq_true_eq] at hx
  obtain ⟨⟨e, hg⟩, hpn⟩ := hx
  subst e
  have hp2 : plainX z = true ∧ zs.all plainX = true := by simpa [List.all_cons] using hp
  obtain ⟨key, fn, a, hn, hk, hf, hm, M, hG⟩ := C.mkr c hF
  cases n with
  | zero =>
    refine ⟨fun pins s σ H Q I ⟨g, τ, m, S, q⟩ => ?_⟩
    refine wpAny_Call_Name_kw (ld_glob I (gl_of C hg) hm ?_ (plain_of hpn).1)
    refine PySem.W.callWith_K (h₀ := X.base) I.ok.mod.kin M.kp (thn (h.run pos pins s σ H (fun _ _ => False) I ?_) fun us s1 ⟨vs, H1, I1, r, q⟩ => q.elim) (star_of hp2.1) (stars_of hp2.2)
    exact ⟨g, τ, m, S, Aft.bind (R2 := RvR X.K) q (fun H1 g1 E H g v r _ rr => rr.base E) fun ds m1 vs H1 g1 _ E1 S1 r1 q1 => q1.elim⟩
  | succ k =>
    obtain ⟨fd, ps, hb, F⟩ := (hG k rfl).ok
    refine PE.imp (pe_makeSD (E := WE W) M F C.room (gl_of C hg) hm hb .nil C.pass h (plain_of hpn).1 (star_of hp2.1) (stars_of hp2.2)) fun σ H Q ⟨g, τ, m, S, q⟩ => ?_
    refine ⟨g, τ, m, S, Aft.bind (R2 := RvR X.K) q (fun H1 g1 E H g v r _ rr => rr.base E) fun ds m1 vs H1 g1 _ E1 S1 r1 q1 => ?_⟩
    intro x dx hx hd ne
    rw [List.append_nil]
    exact aft_make hn hk hf S1 r1 q1 hx hd ne
theorem e_make0 {c : String} {x : Str} {p pos : Pos} (C : Ctx G cla n W FN N sc sct X) (hF : FN.mkr c = true) (hx : (decide (Str.ofString c = x) && glB sc x && plainName x) = true) : PE X (.Call (.Name x p) [] [] pos) (tE X.K cla W (EvE G n (.make c .nil))) := by
  simp only [Bool.and_eq_true, decide_eq_true_eq] at hx
  obtain ⟨⟨e, hg⟩, hpn⟩ := hx
  subst e
  obtain ⟨key, fn, a, hn, hk, hf, hm, M, hG⟩ := C.mkr c hF
  cases n with
  | zero => exact ⟨fun pins s σ H Q I ⟨g, τ, m, S, q⟩ => (show False from q).elim⟩
  | succ k =>
    obtain ⟨fd, ps, hb, F⟩ := (hG k rfl).ok
    refine PE.imp (pe_makeSD0 (E := WE W) M F C.room (gl_of C hg) hm hb .nil C.pass (plain_of hpn).1) fun σ H Q ⟨g, τ, m, S, q⟩ => ?_
    have q : Aft X.K cla (RvR X.K H g) H g σ τ W (callN G (k + 1) c [] m) Q := q
    intro x dx hx hd ne
    exact aft_make hn hk hf S .nil q hx hd ne
theorem e_never {x : Expr} : PE X x (tE X.K cla W (EvE G n .never)) := ⟨fun pins s σ H Q I ⟨g, τ, m, S, q⟩ => (show False from q).elim⟩
end
end P3
set_option Elab.async false
set_option linter.all false
set_option maxRecDepth 100000
set_option maxHeartbeats 0
/-! P3V: dicts, tables, sorted: expressions -/
namespace P3
open PySem PySem.Spec PyProof.Rows L2
section
variable {G : GE} {cla : String → Addr} {n : Nat} {W : WX} {FN : Tb} {N : List Str} {sc sct : Scope} {X : Cx}
theorem e_srt {a : ME} {x : Str} {z : Expr} {p pos : Pos} (C : Ctx G cla n W FN N sc sct X) (hx : x = "sorted") (hg : glB sc x = true) (hz : plainX z = true) (ma : mtE FN N sc a z = true) (ha : Snd G cla n W X z a) :
    PE X (.Call (.Name x p) [z] [] pos) (tE X.K cla W (EvE G n (.srt a))) := by
  subst hx
  have hm : X.mg (Str.ofString "sorted") = none := C.free _ (by decide)
  refine PE.imp (pe_callB (cr_sortT (d := 2) (B := 1000) (by omega)) (gl_of C hg) hm (by decide +kernel) (pa_cons (ha.pk C ma) pa_nil (star_of (env := X.env) (es := []) hz)) (by decide +kernel) (by decide +kernel) (star_of hz) rfl) fun σ H Q ⟨g, τ, m, S, q⟩ => ?_
  refine ⟨g, τ, m, S, Aft.bind (R2 := RvR X.K) q (fun H1 g1 E H g v r _ rr => rr.base E) fun xd m1 xv H1 g1 _ E1 S1 r1 q1 => ?_⟩
  obtain ⟨rv, e, q2⟩ := out_opt0 q1
  exact srt_ok e S1 (r1.look S1) q2
theorem e_kget {y : String} {a : ME} {x : Str} {z : Expr} {p pos : Pos} (C : Ctx G cla n W FN N sc sct X) (hF : FN.tab y = true) (hx : Str.ofString y = x) (hg : glB sc x = true) (hpl : plainName x = true) (hz : plainX z = true) (ha : Snd G cla n W X z a) :
    PE X (.Subscript (.Name x p) z pos) (tE X.K cla W (EvE G n (.kget y a))) := by
  subst hx
  obtain ⟨kvs, ht, d, es, k, hm, D, hv⟩ := C.tab y hF
  refine PE.imp (pe_ix ix_kdict (pe_glob (gl_of C hg) hm (show RelV (.ref d) (.ref d) from rfl) (plain_of hpl).1) ha.v (ix_of hz)) fun σ H Q ⟨g, τ, m, S, q⟩ => ?_
  refine ⟨g, τ, m, S, Aft.bind (R2 := RvR X.K) q (fun H1 g1 E H g v r _ rr => rr.base E) fun kd m1 kv H1 g1 _ E1 S1 r1 q1 => ?_⟩
  obtain ⟨dv, e, q2⟩ := out_opt q1
  rw [ht] at e
  cases kd with
  | str z =>
    have e : kvs.lookup z = some dv := e
    cases r1
    have := hv z
    rw [e] at this
    obtain ⟨u, v, e1, e2, e3⟩ := this
    exact ⟨d, _, v, rfl, rfl, ⟨es, k, u, D.at_, D.lit, e1, e2⟩, q2 v H1 g1 .refl S1 (e3 g1)⟩
  | _ => cases e
theorem kin_ok {K : PySem.W.Frag} {w : World} {mg : Str → Option Value} {y : String} {kvs : List (String × D)} {neg : Bool} {kd : D} {b : Bool} {kv : V} {d : Addr} {g : Gh} {Q : Bool → Prop}
    (hv : ∀ z : String, match kvs.lookup z with
      | some dv => ∃ u v, PySem.W.nsIn K d (Str.ofString z) = some (some u) ∧ RelV v u ∧ ∀ g, VR K g v dv
      | none => PySem.W.nsIn K d (Str.ofString z) = some none) (e : tabIn neg (some kvs) kd = some b) (r : VR K g kv kd) (q : Q b) :
    ∃ (z : Str) (r : Option Value), kv = .str z ∧ PySem.W.nsIn K d z = some r ∧ Q (if neg then !r.isSome else r.isSome) := by
  cases kd with
  | str z =>
    have e : some (if neg then !(kvs.lookup z).isSome else (kvs.lookup z).isSome) = some b := e
    cases e
    cases r
    have := hv z
    cases hl : kvs.lookup z with
    | none =>
      rw [hl] at this q
      exact ⟨_, none, rfl, this, q⟩
    | some dv =>
      rw [hl] at this q
      obtain ⟨u, v, e1, _⟩ := this
      exact ⟨_, some u, rfl, e1, q⟩
  | _ => cases e
theorem e_kin {y : String} {a : ME} {x : Str} {z : Expr} {p pos : Pos} (C : Ctx G cla n W FN N sc sct X) (hF : FN.tab y = true) (hx : Str.ofString y = x) (hg : glB sc x = true) (hpl : plainName x = true) (ha : Snd G cla n W X z a) :
    Snd G cla n W X (.Compare z [.In] [.Name x p] pos) (.kin false y a) := by
  subst hx
  obtain ⟨kvs, ht, d, es, k, hm, D, hv⟩ := C.tab y hF
  have hn : PE X (.Name (Str.ofString y) p) (tC (.ref d)) := pe_glob (gl_of C hg) hm (show RelV (.ref d) (.ref d) from rfl) (plain_of hpl).1
  have conv : ∀ σ H Q, tE X.K cla W (EvE G n (.kin false y a)) σ H Q → tOp (fun x y H Q => ∃ (z : Str) (r : Option Value), x = .str z ∧ y = .ref d ∧ PySem.W.nsIn X.K d z = some r ∧ Q (.bl r.isSome) H) (tV X.K cla W (fun τ m => toV (evalE G.consts (callN G n) a τ m))) (tC (.ref d)) σ H Q := fun σ H Q ⟨g, τ, m, S, q⟩ => by
    refine ⟨g, τ, m, S, Aft.bind (R2 := RvR X.K) q (fun H1 g1 E H g v r _ rr => rr.base E) fun kd m1 kv H1 g1 _ E1 S1 r1 q1 => ?_⟩
    obtain ⟨b, e, q2⟩ := out_opt q1
    rw [ht] at e
    obtain ⟨z, r, e1, e2, e3⟩ := kin_ok (w := X.w) (mg := X.mg) (y := y) (Q := fun b => Q (.bl b) H1) hv e r1 (q2 (.bl b) H1 g1 .refl S1 (VR.bl b))
    exact ⟨z, r, e1, rfl, e2, e3⟩
  exact ⟨PE.imp (pe_cmpR (op_in_kd D) ha.v hn (mark_of rfl)) conv, PT.imp (pt_cmpR (op_in_kd D) ha.v hn (mark_of rfl)) fun σ H Q q => conv _ _ _ (tT_tE q), fun op vs p e => by cases e⟩
theorem e_knin {y : String} {a : ME} {x : Str} {z : Expr} {p pos : Pos} (C : Ctx G cla n W FN N sc sct X) (hF : FN.tab y = true) (hx : Str.ofString y = x) (hg : glB sc x = true) (hpl : plainName x = true) (ha : Snd G cla n W X z a) :
    Snd G cla n W X (.Compare z [.NotIn] [.Name x p] pos) (.kin true y a) := by
  subst hx
  obtain ⟨kvs, ht, d, es, k, hm, D, hv⟩ := C.tab y hF
  have hn : PE X (.Name (Str.ofString y) p) (tC (.ref d)) := pe_glob (gl_of C hg) hm (show RelV (.ref d) (.ref d) from rfl) (plain_of hpl).1
  have conv : ∀ σ H Q, tE X.K cla W (EvE G n (.kin true y a)) σ H Q → tOp (fun x y H Q => ∃ (z : Str) (r : Option Value), x = .str z ∧ y = .ref d ∧ PySem.W.nsIn X.K d z = some r ∧ Q (.bl (!r.isSome)) H) (tV X.K cla W (fun τ m => toV (evalE G.consts (callN G n) a τ m))) (tC (.ref d)) σ H Q := fun σ H Q ⟨g, τ, m, S, q⟩ => by
    refine ⟨g, τ, m, S, Aft.bind (R2 := RvR X.K) q (fun H1 g1 E H g v r _ rr => rr.base E) fun kd m1 kv H1 g1 _ E1 S1 r1 q1 => ?_⟩
    obtain ⟨b, e, q2⟩ := out_opt q1
    rw [ht] at e
    obtain ⟨z, r, e1, e2, e3⟩ := kin_ok (w := X.w) (mg := X.mg) (y := y) (Q := fun b => Q (.bl b) H1) hv e r1 (q2 (.bl b) H1 g1 .refl S1 (VR.bl b))
    exact ⟨z, r, e1, rfl, e2, e3⟩
  exact ⟨PE.imp (pe_cmpR (op_notIn_kd D) ha.v hn (mark_of rfl)) conv, PT.imp (pt_cmpR (op_notIn_kd D) ha.v hn (mark_of rfl)) fun σ H Q q => conv _ _ _ (tT_tE q), fun op vs p e => by cases e⟩
theorem Out.bind_assoc {α β γ : Type} (o : Out α) (f : α → Mem → Out β) (k : β → Mem → Out γ) : (o.bind f).bind k = o.bind fun a m => (f a m).bind k := by cases o <;> rfl
/-! ### a dict that is written down -/
def flatV2 : List (V × V) → List V
  | [] => []
  | p :: r => p.1 :: p.2 :: flatV2 r
theorem e_ps0 : PPs X pos [] [] [] := pps_nil
/-- pairs, read -/
def tPs (K : PySem.W.Frag) (cla : String → Addr) (W : WX) (ev : Tau → Mem → Out (List D)) (σ : L2.St) (H : Hp) (Q : List (V × V) → Hp → Prop) : Prop := ∃ g τ m, SR K cla H g σ τ m ∧ Aft K cla (VRsr K) H g σ τ W (ev τ m) fun us H' => ∀ ps, us = flatV2 ps → Q ps H'
structure PsR (X : Cx) (cla : String → Addr) (W : WX) (pos : Pos) (ks : List (Option Expr)) (vs : List Expr) (ev : Tau → Mem → Out (List D)) : Prop where
  run : ∃ trs, PPs X pos ks vs trs ∧ ∀ σ H Q, tPs X.K cla W ev σ H Q → tPairs trs σ H Q
theorem ps_nil {pos : Pos} : PsR X cla W pos [] [] (EvEs G n .nil) :=
  ⟨[], pps_nil, fun σ H Q ⟨g, τ, m, S, q⟩ => q [] H g .refl S .nil [] rfl⟩
theorem ps_cons {pos : Pos} {k v : ME} {es : MEs} {x y : Expr} {ks : List (Option Expr)} {vs : List Expr} (hk : Snd G cla n W X x k) (hv : Snd G cla n W X y v) (hr : PsR X cla W pos ks vs (EvEs G n es)) :
    PsR X cla W pos (some x :: ks) (y :: vs) (EvEs G n (.cons k (.cons v es))) := by
  obtain ⟨trs, hp, hc⟩ := hr.run
  refine ⟨_, pps_cons hk.v hv.v hp, fun σ H Q ⟨g, τ, m, S, q⟩ => ?_⟩
  refine ⟨g, τ, m, S, Aft.bind (R2 := fun _ _ => VRsr X.K) q (fun _ _ _ _ _ _ _ _ r => r) fun d m1 xv H1 g1 _ E1 S1 r1 q1 => ?_⟩
  have q1 : Aft X.K cla (VRsr X.K) H1 g1 σ τ W (((toV (evalE G.consts (callN G n) v τ m1)).bind fun d2 m2 => (evalEs G.consts (callN G n) es τ m2).bind fun ds m3 => .ok (d2 :: ds) m3).bind fun ds m2 => .ok (d :: ds) m2) (fun us H' => ∀ ps, us = flatV2 ps → Q ps H') := q1
  rw [Out.bind_assoc] at q1
  refine ⟨g1, τ, m1, S1, Aft.bind (R2 := fun _ _ => VRsr X.K) q1 (fun _ _ _ _ _ _ _ _ r => r) fun d2 m2 yv H2 g2 _ E2 S2 r2 q2 => ?_⟩
  have q2 : Aft X.K cla (VRsr X.K) H2 g2 σ τ W (((evalEs G.consts (callN G n) es τ m2).bind fun ds m3 => .ok (d2 :: ds) m3).bind fun ds m2 => .ok (d :: ds) m2) (fun us H' => ∀ ps, us = flatV2 ps → Q ps H') := q2
  rw [Out.bind_assoc] at q2
  refine hc σ H2 _ ⟨g2, τ, m2, S2, Aft.bind (R2 := fun _ _ => VRsr X.K) q2 (fun _ _ _ _ _ _ _ _ r => r) fun ds m3 zs H3 g3 _ E3 S3 r3 q3 => ?_⟩
  intro ps e
  subst e
  exact q3 _ H3 g3 .refl S3 (.cons (VR.mono (E2.le.trans E3.le) r1) (.cons (VR.mono E3.le r2) r3)) ((xv, yv) :: ps) rfl
theorem valV_none {κ : Type} [DecidableEq κ] {kvs : List (κ × V)} {k : κ} (h : ∀ p ∈ kvs, p.1 ≠ k) : valV kvs k = none := by
  induction kvs with
  | nil => exact valV_nil
  | cons p r ih => rw [valV_neg (h p List.mem_cons_self)]; exact ih fun q hq => h q (List.mem_cons_of_mem _ hq)
theorem merge_app {kv more : List (Key × V)} (h : ∀ p ∈ more, ∀ q ∈ kv, q.1 ≠ p.1) (hn : more.Pairwise fun p q => p.1 ≠ q.1) : mergeK kv more = kv ++ more := by
  induction more generalizing kv with
  | nil => simp [mergeK]
  | cons p r ih =>
    rw [List.pairwise_cons] at hn
    have e : putK kv p.1 p.2 = kv ++ [(p.1, p.2)] := putK_new p.2 (valV_none (h p List.mem_cons_self))
    show mergeK (putK kv p.1 p.2) r = _
    rw [e, ih (fun q hq x hx => ?_) hn.2]
    · simp
    · rcases List.mem_append.mp hx with hx | hx
      · exact h q (List.mem_cons_of_mem _ hq) x hx
      · rw [List.mem_singleton.mp hx]
        exact hn.1 q hq
theorem pairs_ok {K : PySem.W.Frag} {g : Gh} : ∀ {ds : List D} {us : List V} {kvs : List (D × D)}, VRs K g us ds → pairsD ds = some kvs → ∃ kv : List (Key × V), us = flatV2 (kv.map fun p => (kV p.1, p.2)) ∧ KVs K g kv kvs
  | [], us, kvs, r, h => by
    cases h
    cases r
    exact ⟨[], rfl, .nil⟩
  | [_], us, kvs, r, h => by cases h
  | k :: v :: ds, us, kvs, r, h => by
    unfold pairsD at h
    split at h
    · rename_i hk
      obtain ⟨kvs', e, rfl⟩ := Option.map_eq_some_iff.mp h
      cases r with
      | cons r1 r =>
        cases r with
        | cons r2 r =>
          obtain ⟨kv, rfl, hkv⟩ := pairs_ok r e
          obtain ⟨key, rfl, hkey⟩ := key_ok hk r1
          exact ⟨(key, _) :: kv, rfl, .cons hkey r2 hkv⟩
    · cases h
theorem fresh_ok {K : PySem.W.Frag} {g : Gh} : ∀ {kv : List (Key × V)} {kvs : List (D × D)}, KVs K g kv kvs → freshK kvs = true → kv.Pairwise fun p q => p.1 ≠ q.1
  | [], _, _, _ => .nil
  | p :: kv, _, .cons (kd := kd) h1 h2 t, h => by
    unfold freshK at h
    rw [Bool.and_eq_true, List.all_eq_true] at h
    refine List.pairwise_cons.mpr ⟨fun q hq => ?_, fresh_ok t h.2⟩
    have key : ∀ {kv : List (Key × V)} {kvs : List (D × D)}, KVs K g kv kvs → ∀ q ∈ kv, ∃ d ∈ kvs, KeyR q.1 d.1 := by
      intro kv
      induction kv with
      | nil => intro _ _ q hq; cases hq
      | cons a as ih =>
        intro kvs r q hq
        cases r with
        | cons k1 k2 k3 =>
          rcases List.mem_cons.mp hq with rfl | hq
          · exact ⟨_, List.mem_cons_self, k1⟩
          · obtain ⟨d, hd, hk⟩ := ih k3 q hq
            exact ⟨d, List.mem_cons_of_mem _ hd, hk⟩
    obtain ⟨d, hd, hk⟩ := key t q hq
    have := h.1 d hd
    rw [keyR_eqv hk h1] at this
    intro z
    rw [z] at this
    simp at this
theorem kvs_len {K : PySem.W.Frag} {g : Gh} : ∀ {kv : List (Key × V)} {kvs : List (D × D)}, KVs K g kv kvs → kv.length = kvs.length
  | _, _, .nil => rfl
  | _, _, .cons _ _ t => congrArg (· + 1) (kvs_len t)
theorem flat_inj : ∀ {ps qs : List (V × V)}, flatV2 ps = flatV2 qs → ps = qs
  | [], [], _ => rfl
  | [], _ :: _, h => by cases h
  | _ :: _, [], h => by cases h
  | (a, b) :: ps, (c, d) :: qs, h => by
    simp only [flatV2, List.cons.injEq] at h
    rw [h.1, h.2.1, flat_inj h.2.2]
theorem ps_all : ∀ {ks : List (Option Expr)} {es : MEs} {vs : List Expr}, mtPs FN N sc es ks vs = true → ks.all (·.isSome) = true ∧ ks.length = vs.length
  | [], es, vs, h => by
    cases es with
    | nil => cases vs with
      | nil => exact ⟨rfl, rfl⟩
      | cons _ _ => simp [mtPs] at h
    | cons a b => cases b <;> simp [mtPs] at h
  | none :: ks, es, vs, h => by
    cases es with
    | nil => simp [mtPs] at h
    | cons a b => cases b <;> simp [mtPs] at h
  | some x :: ks, es, vs, h => by
    cases es with
    | nil => simp [mtPs] at h
    | cons a b =>
      cases b with
      | nil => simp [mtPs] at h
      | cons v es =>
        cases vs with
        | nil => simp [mtPs] at h
        | cons y vs =>
          rw [mtPs] at h
          simp only [Bool.and_eq_true] at h
          obtain ⟨h1, h2⟩ := ps_all h.2
          exact ⟨by simpa using h1, by simp [h2]⟩
theorem e_dct {es : MEs} {ks : List (Option Expr)} {vs : List Expr} {pos : Pos} (C : Ctx G cla n W FN N sc sct X) (hl : ks.length ≤ 15) (hm : mtPs FN N sc es ks vs = true) (h : PsR X cla W pos ks vs (EvEs G n es)) :
    PE X (.Dict ks vs pos) (tE X.K cla W (EvE G n (.dct es))) := by
  cases ks with
  | nil =>
    have : es = .nil ∧ vs = [] := by
      cases es with
      | nil => cases vs with
        | nil => exact ⟨rfl, rfl⟩
        | cons _ _ => simp [mtPs] at hm
      | cons a b => cases b <;> simp [mtPs] at hm
    obtain ⟨rfl, rfl⟩ := this
    exact PE.imp pe_dnewK fun σ H Q ⟨g, τ, m, S, q⟩ p hp => q _ _ _ (Ext.new' hp) (S.new hp) ⟨p, rfl, ⟨[], upd_same, .nil⟩, S.none_fz hp, S.none_ow hp, .inl hp⟩
  | cons k0 ks0 =>
    obtain ⟨trs, hp, hc⟩ := h.run
    obtain ⟨h1, h2⟩ := ps_all hm
    refine PE.imp (pe_disp hp h1 h2 (by simp) hl) fun σ H Q ⟨g, τ, m, S, q⟩ p hp => ?_
    have E0 : Ext H g (upd H p (.dK [])) g := Ext.new' hp
    refine hc σ _ _ ⟨g, τ, m, S.new hp, ?_⟩
    have q : Aft X.K cla (RvR X.K H g) H g σ τ W ((evalEs G.consts (callN G n) es τ m).bind fun ds m1 => (opt (dictOf ds) m1).bind fun kvs m2 => .ok (.own (.dict kvs)) m2) Q := q
    show Aft X.K cla (VRsr X.K) (upd H p (.dK [])) g σ τ W (evalEs G.consts (callN G n) es τ m) _
    cases ho : evalEs G.consts (callN G n) es τ m with
    | stuck => rw [ho] at q; exact q.elim
    | exc e m1 =>
      rw [ho] at q
      exact fun c d H1 g1 E1 S1 r => q c d H1 g1 (E0.trans E1) S1 r
    | ok ds m1 =>
      rw [ho] at q
      intro us H1 g1 E1 S1 r1 ps eps
      have q : Aft X.K cla (RvR X.K H g) H g σ τ W ((opt (dictOf ds) m1).bind fun kvs m2 => .ok (.own (.dict kvs)) m2) Q := q
      obtain ⟨kvs, e, q2⟩ := out_opt q
      unfold dictOf at e
      obtain ⟨kvs', e1, e2⟩ := Option.bind_eq_some_iff.mp e
      split at e2
      · rename_i c
        cases e2
        rw [Bool.and_eq_true, decide_eq_true_eq] at c
        have r1 : VRs X.K g1 us ds := r1
        obtain ⟨kv, e3, rk⟩ := pairs_ok r1 e1
        obtain ⟨d1, d2, d3⟩ := E1.apart upd_same (S.none_ow hp) (S.none_fz hp)
        rw [eps] at e3
        refine ⟨d1, kv, flat_inj e3, by rw [kvs_len rk]; exact c.1, ?_⟩
        rw [merge_app (fun p _ q hq => by cases hq) (fresh_ok rk c.2), List.nil_append]
        exact q2 _ _ _ ((E0.trans E1).writeNew hp) (S1.writeNew d2 d3) ⟨p, rfl, ⟨kv, upd_same, rk⟩, d3, d2, .inl hp⟩
      · cases e2
end
end P3
set_option Elab.async false
set_option linter.all false
set_option maxRecDepth 100000
set_option maxHeartbeats 0
/-! P3M: every expression -/
namespace P3
open PySem L2
section
variable {FN : Tb} {N : List Str} {sc : Scope} {e : Expr}
theorem iv_var {i : Nat} (h : mtE FN N sc (.var i) e = true) : ∃ x p, e = .Name x p ∧ slotB N sc i x = true := by
  cases e <;> first | (simp [mtE] at h; done) | exact ⟨_, _, rfl, by simpa [mtE] using h⟩
theorem iv_glob {i : String} (h : mtE FN N sc (.glob i) e = true) : ∃ x p, e = .Name x p ∧ (decide (Str.ofString i = x) && glB sc x && plainName x) = true := by
  cases e <;> first | (simp [mtE] at h; done) | exact ⟨_, _, rfl, by simpa [mtE] using h⟩
theorem iv_int {i : Int} (h : mtE FN N sc (.int i) e = true) : ∃ x p, e = .Constant (.int i) x p := by
  cases e <;> first | (simp [mtE] at h; done) | skip
  rename_i c _ _
  cases c <;> first | (simp [mtE] at h; done) | (simp [mtE] at h; subst h; exact ⟨_, _, rfl⟩)
theorem iv_str {i : String} (h : mtE FN N sc (.str i) e = true) : ∃ x p, e = .Constant (.str (Str.ofString i)) x p := by
  cases e <;> first | (simp [mtE] at h; done) | skip
  rename_i c _ _
  cases c <;> first | (simp [mtE] at h; done) | (simp [mtE] at h; subst h; exact ⟨_, _, rfl⟩)
theorem iv_bl {i : Bool} (h : mtE FN N sc (.bl i) e = true) : ∃ x p, e = .Constant (.bool i) x p := by
  cases e <;> first | (simp [mtE] at h; done) | skip
  rename_i c _ _
  cases c <;> first | (simp [mtE] at h; done) | (simp [mtE] at h; subst h; exact ⟨_, _, rfl⟩)
theorem iv_non (h : mtE FN N sc .non e = true) : ∃ x p, e = .Constant .none x p := by
  cases e <;> first | (simp [mtE] at h; done) | skip
  rename_i c _ _
  cases c <;> first | (simp [mtE] at h; done) | exact ⟨_, _, rfl⟩
theorem iv_neg {i : Nat} (h : mtE FN N sc (.neg i) e = true) : ∃ x p q, e = .UnaryOp .USub (.Constant (.int (i : Int)) x p) q := by
  cases e <;> first | (simp [mtE] at h; done) | skip
  rename_i op c _
  cases op <;> first | (simp [mtE] at h; done) | skip
  cases c <;> first | (simp [mtE] at h; done) | skip
  rename_i c _ _
  cases c <;> first | (simp [mtE] at h; done) | (simp [mtE] at h; subst h; exact ⟨_, _, _, rfl⟩)
theorem iv_tup {es : MEs} (h : mtE FN N sc (.tup es) e = true) : ∃ xs k p, e = .Tuple xs k p ∧ mtEs FN N sc es xs = true := by
  cases e <;> first | (simp [mtE] at h; done) | exact ⟨_, _, _, rfl, by simpa [mtE] using h⟩
theorem iv_lst {es : MEs} (h : mtE FN N sc (.lst es) e = true) : ∃ xs p, e = .List xs p ∧ mtEs FN N sc es xs = true := by
  cases e <;> first | (simp [mtE] at h; done) | exact ⟨_, _, rfl, by simpa [mtE] using h⟩
theorem iv_bin {op : BOp} {a b : ME} (h : mtE FN N sc (.bin op a b) e = true) : ∃ x o y p, e = .BinOp x o y p ∧ opB op o = true ∧ mtE FN N sc a x = true ∧ mtE FN N sc b y = true := by
  cases e <;> first | (simp [mtE] at h; done) | skip
  simp only [mtE, Bool.and_eq_true] at h
  exact ⟨_, _, _, _, rfl, h.1.1, h.1.2, h.2⟩
theorem iv_cmp {op : COp} {a b : ME} (h : mtE FN N sc (.cmp op a b) e = true) : ∃ x o y p, e = .Compare x [o] [y] p ∧ copB op o = true ∧ plainX y = true ∧ mtE FN N sc a x = true ∧ mtE FN N sc b y = true := by
  cases e <;> first | (simp [mtE] at h; done) | skip
  rename_i x os ys p
  match os, ys, h with
  | [o], [y], h =>
    simp only [mtE, Bool.and_eq_true] at h
    exact ⟨_, _, _, _, rfl, h.1.1.1, h.1.1.2, h.1.2, h.2⟩
  | [], _, h => simp [mtE] at h
  | _ :: _ :: _, _, h => simp [mtE] at h
  | [_], [], h => simp [mtE] at h
  | [_], _ :: _ :: _, h => simp [mtE] at h
theorem iv_chain {o1 o2 : COp} {a b c : ME} (h : mtE FN N sc (.chain o1 o2 a b c) e = true) : ∃ x p1 p2 y z p, e = .Compare x [p1, p2] [y, z] p ∧ copB o1 p1 = true ∧ copB o2 p2 = true ∧ plainX y = true ∧ plainX z = true ∧ mtE FN N sc a x = true ∧ mtE FN N sc b y = true ∧ mtE FN N sc c z = true := by
  cases e <;> first | (simp [mtE] at h; done) | skip
  rename_i x os ys p
  match os, ys, h with
  | [o, q], [y, z], h =>
    simp only [mtE, Bool.and_eq_true] at h
    exact ⟨_, _, _, _, _, _, rfl, h.1.1.1.1.1.1, h.1.1.1.1.1.2, h.1.1.1.1.2, h.1.1.1.2, h.1.1.2, h.1.2, h.2⟩
  | [], _, h => simp [mtE] at h
  | [_], _, h => simp [mtE] at h
  | _ :: _ :: _ :: _, _, h => simp [mtE] at h
  | [_, _], [], h => simp [mtE] at h
  | [_, _], [_], h => simp [mtE] at h
  | [_, _], _ :: _ :: _ :: _, h => simp [mtE] at h
theorem iv_not {a : ME} (h : mtE FN N sc (.not a) e = true) : ∃ x q, e = .UnaryOp .Not x q ∧ mtE FN N sc a x = true := by
  cases e <;> first | (simp [mtE] at h; done) | skip
  rename_i op c _
  cases op <;> first | (simp [mtE] at h; done) | exact ⟨_, _, rfl, by simpa [mtE] using h⟩
theorem iv_and {a b : ME} (h : mtE FN N sc (.and a b) e = true) : ∃ x y r p, e = .BoolOp .And (x :: y :: r) p ∧ mtE FN N sc a x = true ∧ mtE FN N sc b (.BoolOp .And (y :: r) p) = true := by
  cases e <;> first | (simp [mtE] at h; done) | skip
  rename_i op vs p
  cases op with
  | Or => simp [mtE] at h
  | And =>
    match vs, h with
    | [], h => simp [mtE] at h
    | [_], h => simp [mtE] at h
    | x :: y :: r, h =>
      rw [mtE, Bool.and_eq_true] at h
      exact ⟨_, _, _, _, rfl, h.1, h.2⟩
theorem iv_or {a b : ME} (h : mtE FN N sc (.or a b) e = true) : ∃ x y r p, e = .BoolOp .Or (x :: y :: r) p ∧ mtE FN N sc a x = true ∧ mtE FN N sc b (.BoolOp .Or (y :: r) p) = true := by
  cases e <;> first | (simp [mtE] at h; done) | skip
  rename_i op vs p
  cases op with
  | And => simp [mtE] at h
  | Or =>
    match vs, h with
    | [], h => simp [mtE] at h
    | [_], h => simp [mtE] at h
    | x :: y :: r, h =>
      rw [mtE, Bool.and_eq_true] at h
      exact ⟨_, _, _, _, rfl, h.1, h.2⟩
theorem iv_one {a : ME} (h : mtE FN N sc (.one a) e = true) : ∃ op x p, e = .BoolOp op [x] p ∧ mtE FN N sc a x = true := by
  cases e <;> first | (simp [mtE] at h; done) | skip
  rename_i op vs p
  match vs, h with
  | [], h => simp [mtE] at h
  | [x], h => exact ⟨_, _, _, rfl, by simpa [mtE] using h⟩
  | _ :: _ :: _, h => simp [mtE] at h
theorem iv_ife {c a b : ME} (h : mtE FN N sc (.ife c a b) e = true) : ∃ x y z p, e = .IfExp x y z p ∧ mtE FN N sc c x = true ∧ mtE FN N sc a y = true ∧ mtE FN N sc b z = true := by
  cases e <;> first | (simp [mtE] at h; done) | skip
  simp only [mtE, Bool.and_eq_true] at h
  exact ⟨_, _, _, _, rfl, h.1.1, h.1.2, h.2⟩
theorem iv_idx {a i : ME} (h : mtE FN N sc (.idx a i) e = true) : ∃ x y p, e = .Subscript x y p ∧ plainX y = true ∧ mtE FN N sc a x = true ∧ mtE FN N sc i y = true := by
  cases e <;> first | (simp [mtE] at h; done) | skip
  simp only [mtE, Bool.and_eq_true] at h
  exact ⟨_, _, _, rfl, h.1.1, h.1.2, h.2⟩
theorem iv_slc {a : ME} {lo hi : MEs} (he : mtE FN N sc (.slc a lo hi) e = true) : ∃ x l h p2 p, e = .Subscript x (.Slice l h none p2) p ∧ mtE FN N sc a x = true ∧ mtO FN N sc lo l = true ∧ mtO FN N sc hi h = true := by
  cases e <;> first | (simp [mtE] at he; done) | skip
  rename_i x y p
  cases y <;> first | (simp [mtE] at he; done) | skip
  rename_i l h s p2
  cases s with
  | some _ => simp [mtE] at he
  | none =>
    simp only [mtE, Bool.and_eq_true] at he
    exact ⟨_, _, _, _, _, rfl, he.1.1, he.1.2, he.2⟩
theorem iv_call {f : String} {es : MEs} (h : mtE FN N sc (.call f es) e = true) : (es = .nil ∧ ∃ x p pos, e = .Call (.Name x p) [] [] pos ∧ FN.fn f = true ∧ (decide (Str.ofString f = x) && glB sc x && plainName x) = true) ∨
    ∃ x p y ys pos, e = .Call (.Name x p) (y :: ys) [] pos ∧ FN.fn f = true ∧ (decide (Str.ofString f = x) && glB sc x && plainName x) = true ∧ mtEs FN N sc es (y :: ys) = true := by
  cases e <;> first | (simp [mtE] at h; done) | skip
  rename_i g as ks p
  cases g <;> first | (simp [mtE] at h; done) | skip
  rename_i x p2
  match as, ks, h with
  | [], [], h =>
    cases es with
    | nil =>
      rw [mtE] at h
      simp only [Bool.and_eq_true] at h
      exact .inl ⟨rfl, _, _, _, rfl, h.1.1.1, by simp only [Bool.and_eq_true]; exact ⟨⟨h.1.1.2, h.1.2⟩, h.2⟩⟩
    | cons _ _ => simp [mtE] at h
  | [], _ :: _, h => simp [mtE] at h
  | _ :: _, _ :: _, h => simp [mtE] at h
  | y :: ys, [], h =>
    rw [mtE] at h
    simp only [Bool.and_eq_true] at h
    exact .inr ⟨_, _, _, _, _, rfl, h.1.1.1.1, by simp only [Bool.and_eq_true]; exact ⟨⟨h.1.1.1.2, h.1.1.2⟩, h.1.2⟩, h.2⟩
theorem iv_sset {a : ME} (h : mtE FN N sc (.sset a) e = true) : ∃ x p y p2 z pos2 pos, e = .Call (.Name x p) [.Call (.Name y p2) [z] [] pos2] [] pos ∧ x = "sorted" ∧ glB sc x = true ∧ y = "set" ∧ glB sc y = true ∧ plainX z = true ∧ mtE FN N sc a z = true := by
  cases e <;> first | (simp [mtE] at h; done) | skip
  rename_i g as ks p
  cases g <;> first | (simp [mtE] at h; done) | skip
  rename_i x p2
  match as, ks, h with
  | [], _, h => simp [mtE] at h
  | _ :: _ :: _, _, h => simp [mtE] at h
  | [_], _ :: _, h => simp [mtE] at h
  | [z], [], h =>
    cases z <;> first | (simp [mtE] at h; done) | skip
    rename_i g2 as2 ks2 p3
    cases g2 <;> first | (simp [mtE] at h; done) | skip
    match as2, ks2, h with
    | [], _, h => simp [mtE] at h
    | _ :: _ :: _, _, h => simp [mtE] at h
    | [_], _ :: _, h => simp [mtE] at h
    | [z], [], h =>
      rw [mtE] at h
      simp only [Bool.and_eq_true, decide_eq_true_eq] at h
      exact ⟨_, _, _, _, _, _, _, rfl, h.1.1.1.1.1, h.1.1.1.1.2, h.1.1.1.2, h.1.1.2, h.1.2, h.2⟩
theorem iv_mx {a b : ME} (h : mtE FN N sc (.mx a b) e = true) : ∃ x p y z pos, e = .Call (.Name x p) [y, z] [] pos ∧ x = "max" ∧ glB sc x = true ∧ plainX y = true ∧ plainX z = true ∧ mtE FN N sc a y = true ∧ mtE FN N sc b z = true := by
  cases e <;> first | (simp [mtE] at h; done) | skip
  rename_i g as ks p
  cases g <;> first | (simp [mtE] at h; done) | skip
  rename_i x p2
  match as, ks, h with
  | [], _, h => simp [mtE] at h
  | [_], _, h => simp [mtE] at h
  | _ :: _ :: _ :: _, _, h => simp [mtE] at h
  | [_, _], _ :: _, h => simp [mtE] at h
  | [y, z], [], h =>
    rw [mtE] at h
    simp only [Bool.and_eq_true, decide_eq_true_eq] at h
    exact ⟨_, _, _, _, _, rfl, h.1.1.1.1.1, h.1.1.1.1.2, h.1.1.1.2, h.1.1.2, h.1.2, h.2⟩
theorem iv_blt {f : BF} {a : ME} (h : mtE FN N sc (.blt f a) e = true) : ∃ x p y pos, e = .Call (.Name x p) [y] [] pos ∧ (decide (Str.ofString f.name = x) && glB sc x && plainX y) = true ∧ mtE FN N sc a y = true := by
  cases e <;> first | (simp [mtE] at h; done) | skip
  rename_i g as ks p
  cases g <;> first | (simp [mtE] at h; done) | skip
  rename_i x p2
  match as, ks, h with
  | [], _, h => simp [mtE] at h
  | _ :: _ :: _, _, h => simp [mtE] at h
  | [_], _ :: _, h => simp [mtE] at h
  | [y], [], h =>
    rw [mtE] at h
    rw [Bool.and_eq_true] at h
    exact ⟨_, _, _, _, rfl, h.1, h.2⟩
theorem iv_isi {t : IT} {a : ME} (h : mtE FN N sc (.isi a t) e = true) : ∃ x p y z p2 pos, e = .Call (.Name x p) [y, .Name z p2] [] pos ∧ x = "isinstance" ∧ glB sc x = true ∧ plainX y = true ∧ mtE FN N sc a y = true ∧ Str.ofString t.name = z ∧ glB sc z = true := by
  cases e <;> first | (simp [mtE] at h; done) | skip
  rename_i g as ks p
  cases g <;> first | (simp [mtE] at h; done) | skip
  rename_i x p2
  match as, ks, h with
  | [], _, h => simp [mtE] at h
  | [_], _, h => simp [mtE] at h
  | _ :: _ :: _ :: _, _, h => simp [mtE] at h
  | [_, _], _ :: _, h => simp [mtE] at h
  | [y, z], [], h =>
    cases z <;> first | (simp [mtE] at h; done) | skip
    rw [mtE] at h
    simp only [Bool.and_eq_true, decide_eq_true_eq] at h
    exact ⟨_, _, _, _, _, _, rfl, h.1.1.1.1.1, h.1.1.1.1.2, h.1.1.1.2, h.1.1.2, h.1.2, h.2⟩
theorem iv_lc {a : ME} {tg : Tgt} {it : MI} {cond : MEs} {own : List (String × Nat)} (h : mtE FN N sc (.lc a tg it cond own) e = true) : ∃ y t i ifs scope pos, e = .ListComp y [⟨t, i, ifs, 0⟩] scope pos ∧ mtI FN N sc it t i = true ∧ tg.within (own.map (·.2)) = true ∧ L2.blkC N sc scope (own.map fun p => (Str.ofString p.1, p.2)) = true ∧ tgB N scope tg t = true ∧ mtC FN N (relS scope sc) cond ifs = true ∧ mtE FN N (relS scope sc) a y = true ∧ plainX i = true := by
  cases e <;> first | (simp [mtE] at h; done) | skip
  rename_i y cs scope p
  match cs, h with
  | [], h => simp [mtE] at h
  | _ :: _ :: _, h => simp [mtE] at h
  | [⟨t, i, ifs, as⟩], h =>
    by_cases has : as = 0
    · subst has
      rw [mtE] at h
      simp only [Bool.and_eq_true] at h
      exact ⟨_, _, _, _, _, _, rfl, h.1.1.1.1.1.1, h.1.1.1.1.1.2, h.1.1.1.1.2, h.1.1.1.2, h.1.1.2, h.1.2, h.2⟩
    · exfalso
      rw [mtE] at h
      · cases h
      all_goals (intros; simp_all)
theorem iv_fld {c f : String} {a : ME} (h : mtE FN N sc (.fld c a f) e = true) : ∃ x y p, e = .Attribute x y p ∧ FN.fa c f = true ∧ Str.ofString f = y ∧ recvX x = true ∧ mtE FN N sc a x = true := by
  cases e <;> first | (simp [mtE] at h; done) | skip
  rw [mtE] at h
  simp only [Bool.and_eq_true, decide_eq_true_eq] at h
  exact ⟨_, _, _, rfl, h.1.1.1, h.1.1.2, h.1.2, h.2⟩
theorem iv_meth {o : ME} {c m key : String} {es : MEs} (h : mtE FN N sc (.meth o c m key es) e = true) : (es = .nil ∧ ∃ x y ap p, e = .Call (.Attribute x y ap) [] [] p ∧ FN.fm c m key = true ∧ Str.ofString m = y ∧ (ap.endLine == p.line) = true ∧ recvX x = true ∧ mtE FN N sc o x = true) ∨
    ∃ x y ap z zs p, e = .Call (.Attribute x y ap) (z :: zs) [] p ∧ FN.fm c m key = true ∧ Str.ofString m = y ∧ (ap.endLine == p.line) = true ∧ recvX x = true ∧ zs.length < 20 ∧ mtE FN N sc o x = true ∧ mtEs FN N sc es (z :: zs) = true := by
  cases e <;> first | (simp [mtE] at h; done) | skip
  rename_i g as ks p
  cases g <;> first | (simp [mtE] at h; done) | skip
  match as, ks, h with
  | [], [], h =>
    cases es with
    | nil =>
      rw [mtE] at h
      simp only [Bool.and_eq_true, decide_eq_true_eq] at h
      exact .inl ⟨rfl, _, _, _, _, rfl, h.1.1.1.1, h.1.1.1.2, h.1.1.2, h.1.2, h.2⟩
    | cons _ _ => simp [mtE] at h
  | [], _ :: _, h => simp [mtE] at h
  | _ :: _, _ :: _, h => simp [mtE] at h
  | z :: zs, [], h =>
    rw [mtE] at h
    simp only [Bool.and_eq_true, decide_eq_true_eq] at h
    exact .inr ⟨_, _, _, _, _, _, rfl, h.1.1.1.1.1.1, h.1.1.1.1.1.2, h.1.1.1.1.2, h.1.1.1.2, h.1.1.2, h.1.2, h.2⟩
theorem iv_make {c : String} {es : MEs} (h : mtE FN N sc (.make c es) e = true) : (es = .nil ∧ ∃ x p pos, e = .Call (.Name x p) [] [] pos ∧ FN.mkr c = true ∧ (decide (Str.ofString c = x) && glB sc x && plainName x) = true) ∨
    ∃ x p z zs pos, e = .Call (.Name x p) (z :: zs) [] pos ∧ FN.mkr c = true ∧ (decide (Str.ofString c = x) && glB sc x && plainName x) = true ∧ mtEs FN N sc es (z :: zs) = true := by
  cases e <;> first | (simp [mtE] at h; done) | skip
  rename_i g as ks p
  cases g <;> first | (simp [mtE] at h; done) | skip
  match as, ks, h with
  | [], [], h =>
    cases es with
    | nil =>
      rw [mtE] at h
      simp only [Bool.and_eq_true] at h
      exact .inl ⟨rfl, _, _, _, rfl, h.1.1.1, by simp only [Bool.and_eq_true]; exact ⟨⟨h.1.1.2, h.1.2⟩, h.2⟩⟩
    | cons _ _ => simp [mtE] at h
  | [], _ :: _, h => simp [mtE] at h
  | _ :: _, _ :: _, h => simp [mtE] at h
  | z :: zs, [], h =>
    rw [mtE] at h
    simp only [Bool.and_eq_true] at h
    exact .inr ⟨_, _, _, _, _, rfl, h.1.1.1.1, by simp only [Bool.and_eq_true]; exact ⟨⟨h.1.1.1.2, h.1.1.2⟩, h.1.2⟩, h.2⟩
theorem iv_never (h : mtE FN N sc .never e = true) : plainTest e = true := by rw [mtE, Bool.and_eq_true] at h; exact h.1
theorem iv_alloc {a : ME} (h : mtE FN N sc (.alloc a) e = true) : allocX e = true ∧ mtE FN N sc a e = true := by
  rw [mtE, Bool.and_eq_true] at h; exact h
theorem alloc_plain (h : allocX e = true) : plainTest e = true := by
  cases e <;> first | rfl | cases h
theorem iv_nil {xs : List Expr} (h : mtEs FN N sc .nil xs = true) : xs = [] := by
  cases xs with
  | nil => rfl
  | cons x xs => simp [mtEs] at h
theorem iv_cons {a : ME} {es : MEs} {xs : List Expr} (h : mtEs FN N sc (.cons a es) xs = true) : ∃ x r, xs = x :: r ∧ plainX x = true ∧ mtE FN N sc a x = true ∧ mtEs FN N sc es r = true := by
  cases xs with
  | nil => simp [mtEs] at h
  | cons x xs =>
    simp only [mtEs, Bool.and_eq_true] at h
    exact ⟨_, _, rfl, h.1.1, h.1.2, h.2⟩
theorem all_plain : ∀ {es : MEs} {xs : List Expr}, mtEs FN N sc es xs = true → xs.all plainX = true
  | .nil, xs, h => by rw [iv_nil h]; rfl
  | .cons a es, xs, h => by
    obtain ⟨x, r, rfl, h1, _, h3⟩ := iv_cons h
    rw [List.all_cons, h1, all_plain h3]; rfl
end
theorem PTs.imp {X : Cx} {e : List Expr} {t t' : TT} (h : PTs X e t) (i : ∀ σ H Q, t' σ H Q → t σ H Q) : PTs X e t' := ⟨fun pins s σ H Q I q => h.run pins s σ H Q I (i σ H Q q)⟩
section
variable {G : GE} {cla : String → Addr} {n : Nat} {FN : Tb} {N : List Str}
theorem e_negc {X : Cx} {i : Nat} {x p q} : PE X (.UnaryOp .USub (.Constant (.int (i : Int)) x p) q) (tC (.int (-(i : Int)))) :=
  PE.imp (pe_un un_neg pe_int) fun σ H Q h => ⟨_, rfl, h⟩
abbrev CtxG (G : GE) (cla : String → Addr) (n : Nat) (FN : Tb) (N : List Str) (W : WX) (sc sct : Scope) (X : Cx) : Prop := Ctx G cla n W FN N sc sct X
theorem e_lc {W : WX} {sc sct : Scope} {X : Cx} {a : ME} {tg : Tgt} {it : MI} {cond : MEs} {own : List (String × Nat)} {y t i : Expr} {ifs : List Expr} {scope : Scope} {pos : Pos} (C : Ctx G cla n W FN N sc sct X)
    (hi : PI X t i (tI X.K cla W (EvI G n it))) (hw : tg.within (own.map (·.2)) = true) (hb : L2.blkC N sc scope (own.map fun p => (Str.ofString p.1, p.2)) = true) (ht : tgB N scope tg t = true) (hp : plainX i = true)
    (hc : ∀ X', Ctx G cla n WF FN N (relS scope sc) scope X' → X'.K = X.K → PTs X' ifs (tT X'.K cla WF (evalT G.consts (callN G n) cond)))
    (he : ∀ X', Ctx G cla n WF FN N (relS scope sc) scope X' → X'.K = X.K → Snd G cla n WF X' y a) :
    PE X (.ListComp y [⟨t, i, ifs, 0⟩] scope pos) (tE X.K cla W (EvE G n (.lc a tg it cond own))) := by
  have hN : X.N = N := C.names
  have hs : X.env.scope = sc := C.scope
  refine PE.imp (pe_lc (g := tGt X.K tg) (own := own.map fun p => (Str.ofString p.1, p.2)) C.calm (by rw [hN]; exact C.nd) hi (blkOk_by (by rw [hN, hs]; exact hb))
    (fun s H a cl fp => pg_tgt (C.blk s H scope cl a fp) ht)
    (tt := tT X.K cla WF (evalT G.consts (callN G n) cond)) (te := tV X.K cla WF (fun τ m => toV (EvE G n a τ m))) (fun s H a cl fp => hc _ (C.blk s H scope cl a fp) rfl) (fun s H b cl fp => (he _ (C.blk s H scope cl b fp) rfl).v) (fun x => fold_of hp x)) fun σ H Q q => ?_
  have e : (own.map fun p => ((Str.ofString p.1, p.2) : Str × Nat)).map (·.2) = own.map (·.2) := by rw [List.map_map]; rfl
  exact lc_read (own := own) (vs := (own.map fun p => ((Str.ofString p.1, p.2) : Str × Nat)).map (·.2)) e (by rw [e]; exact hw) (fun _ _ _ h => h) (fun _ _ _ h => h) (fun _ _ _ h => h) q
theorem iv_srt {a : ME} (h : mtE FN N sc (.srt a) e = true) : ∃ x p z pos, e = .Call (.Name x p) [z] [] pos ∧ x = "sorted" ∧ glB sc x = true ∧ plainX z = true ∧ mtE FN N sc a z = true := by
  cases e <;> first | (simp [mtE] at h; done) | skip
  rename_i g as ks p
  cases g <;> first | (simp [mtE] at h; done) | skip
  match as, ks, h with
  | [], _, h => simp [mtE] at h
  | _ :: _ :: _, _, h => simp [mtE] at h
  | [_], _ :: _, h => simp [mtE] at h
  | [z], [], h =>
    rw [mtE] at h
    simp only [Bool.and_eq_true, decide_eq_true_eq] at h
    exact ⟨_, _, _, _, rfl, h.1.1.1, h.1.1.2, h.1.2, h.2⟩
theorem iv_kget {y : String} {a : ME} (h : mtE FN N sc (.kget y a) e = true) : ∃ x p z pos, e = .Subscript (.Name x p) z pos ∧ FN.tab y = true ∧ Str.ofString y = x ∧ glB sc x = true ∧ plainName x = true ∧ plainX z = true ∧ mtE FN N sc a z = true := by
  cases e <;> first | (simp [mtE] at h; done) | skip
  rename_i g z p
  cases g <;> first | (simp [mtE] at h; done) | skip
  rw [mtE] at h
  simp only [Bool.and_eq_true, decide_eq_true_eq] at h
  exact ⟨_, _, _, _, rfl, h.1.1.1.1.1, h.1.1.1.1.2, h.1.1.1.2, h.1.1.2, h.1.2, h.2⟩
theorem iv_kin {neg : Bool} {y : String} {a : ME} (h : mtE FN N sc (.kin neg y a) e = true) : ∃ x p z pos, e = .Compare z [if neg then .NotIn else .In] [.Name x p] pos ∧ FN.tab y = true ∧ Str.ofString y = x ∧ glB sc x = true ∧ plainName x = true ∧ mtE FN N sc a z = true := by
  cases e <;> first | (cases neg <;> simp [mtE] at h; done) | skip
  rename_i z os ys p
  match os, ys, h with
  | [], _, h => cases neg <;> simp [mtE] at h
  | _ :: _ :: _, _, h => cases neg <;> simp [mtE] at h
  | [o], [], h => cases neg <;> simp [mtE] at h
  | [o], _ :: _ :: _, h => cases neg <;> cases o <;> simp [mtE] at h
  | [o], [yy], h =>
    cases neg <;> cases o <;> first | (simp [mtE] at h; done) | skip
    · cases yy <;> first | (simp [mtE] at h; done) | skip
      rw [mtE] at h
      simp only [Bool.and_eq_true, decide_eq_true_eq] at h
      exact ⟨_, _, _, _, rfl, h.1.1.1.1, h.1.1.1.2, h.1.1.2, h.1.2, h.2⟩
    · cases yy <;> first | (simp [mtE] at h; done) | skip
      rw [mtE] at h
      simp only [Bool.and_eq_true, decide_eq_true_eq] at h
      exact ⟨_, _, _, _, rfl, h.1.1.1.1, h.1.1.1.2, h.1.1.2, h.1.2, h.2⟩
theorem iv_dct {es : MEs} (h : mtE FN N sc (.dct es) e = true) : ∃ ks vs pos, e = .Dict ks vs pos ∧ ks.length ≤ 15 ∧ mtPs FN N sc es ks vs = true := by
  cases e <;> first | (simp [mtE] at h; done) | skip
  rw [mtE] at h
  simp only [Bool.and_eq_true, decide_eq_true_eq] at h
  exact ⟨_, _, _, rfl, h.1, h.2⟩
theorem iv_ps {k v : ME} {es : MEs} {ks : List (Option Expr)} {vs : List Expr} (h : mtPs FN N sc (.cons k (.cons v es)) ks vs = true) : ∃ x y ks' vs', ks = some x :: ks' ∧ vs = y :: vs' ∧ mtE FN N sc k x = true ∧ mtE FN N sc v y = true ∧ mtPs FN N sc es ks' vs' = true := by
  match ks, vs, h with
  | [], _, h => simp [mtPs] at h
  | none :: _, _, h => simp [mtPs] at h
  | some _ :: _, [], h => simp [mtPs] at h
  | some x :: ks, y :: vs, h =>
    rw [mtPs] at h
    simp only [Bool.and_eq_true] at h
    exact ⟨_, _, _, _, rfl, rfl, h.1.1.2, h.1.2, h.2⟩
mutual
theorem sndE : ∀ (me : ME) {W : WX} {sc sct : Scope} {X : Cx} {e : Expr}, Ctx G cla n W FN N sc sct X → mtE FN N sc me e = true → Snd G cla n W X e me
  | .var i, W, sc, sct, X, e, C, h => by
    obtain ⟨x, p, rfl, h1⟩ := iv_var h
    exact .plain (e_var C h1) rfl
  | .glob y, W, sc, sct, X, e, C, h => by
    obtain ⟨x, p, rfl, h1⟩ := iv_glob h
    exact .plain (e_glob C h1) rfl
  | .int i, W, sc, sct, X, e, C, h => by
    obtain ⟨x, p, rfl⟩ := iv_int h
    exact .plain (e_const pe_int (fun g => VR.int _) (fun _ _ => rfl)) rfl
  | .str i, W, sc, sct, X, e, C, h => by
    obtain ⟨x, p, rfl⟩ := iv_str h
    exact .plain (e_const pe_str (fun g => VR.str _) (fun _ _ => rfl)) rfl
  | .bl i, W, sc, sct, X, e, C, h => by
    obtain ⟨x, p, rfl⟩ := iv_bl h
    exact .plain (e_const pe_bl (fun g => VR.bl _) (fun _ _ => rfl)) rfl
  | .non, W, sc, sct, X, e, C, h => by
    obtain ⟨x, p, rfl⟩ := iv_non h
    exact .plain (e_const pe_non (fun g => VR.non) (fun _ _ => rfl)) rfl
  | .neg i, W, sc, sct, X, e, C, h => by
    obtain ⟨x, p, q, rfl⟩ := iv_neg h
    exact .plain (e_const e_negc (fun g => VR.int _) (fun _ _ => rfl)) rfl
  | .tup es, W, sc, sct, X, e, C, h => by
    obtain ⟨xs, k, p, rfl, h1⟩ := iv_tup h
    exact .plain (e_tup (sndEs es C h1)) rfl
  | .lst es, W, sc, sct, X, e, C, h => by
    obtain ⟨xs, p, rfl, h1⟩ := iv_lst h
    exact .plain (e_lst (sndEs es C h1)) rfl
  | .bin op a b, W, sc, sct, X, e, C, h => by
    obtain ⟨x, o, y, p, rfl, h1, h2, h3⟩ := iv_bin h
    exact .plain (e_bin C h1 h2 h3 (sndE a C h2) (sndE b C h3)) rfl
  | .cmp op a b, W, sc, sct, X, e, C, h => by
    obtain ⟨x, o, y, p, rfl, h1, h0, h2, h3⟩ := iv_cmp h
    exact e_cmp C h1 h0 h2 h3 (sndE a C h2) (sndE b C h3)
  | .chain o1 o2 a b c, W, sc, sct, X, e, C, h => by
    obtain ⟨x, p1, p2, y, z, p, rfl, h1, h2, h3, h4, h5, h6, h7⟩ := iv_chain h
    exact e_chain C h1 h2 h3 h4 (sndE a C h5) (sndE b C h6) (sndE c C h7)
  | .not a, W, sc, sct, X, e, C, h => by
    obtain ⟨x, p, rfl, h1⟩ := iv_not h
    exact e_not (sndE a C h1)
  | .and a b, W, sc, sct, X, e, C, h => by
    obtain ⟨x, y, r, p, rfl, h1, h2⟩ := iv_and h
    exact e_and (sndE a C h1) (sndE b C h2)
  | .or a b, W, sc, sct, X, e, C, h => by
    obtain ⟨x, y, r, p, rfl, h1, h2⟩ := iv_or h
    exact e_or (sndE a C h1) (sndE b C h2)
  | .one a, W, sc, sct, X, e, C, h => by
    obtain ⟨op, x, p, rfl, h1⟩ := iv_one h
    exact e_one (sndE a C h1)
  | .ife c a b, W, sc, sct, X, e, C, h => by
    obtain ⟨x, y, z, p, rfl, h1, h2, h3⟩ := iv_ife h
    exact e_ife (sndE c C h1) (sndE a C h2) (sndE b C h3)
  | .idx a i, W, sc, sct, X, e, C, h => by
    obtain ⟨x, y, p, rfl, h1, h2, h3⟩ := iv_idx h
    exact .plain (e_idx C h1 h2 (sndE a C h2) (sndE i C h3)) rfl
  | .slc a lo hi, W, sc, sct, X, e, C, h => by
    obtain ⟨x, l, hh, p2, p, rfl, h1, h2, h3⟩ := iv_slc h
    exact .plain (e_slc C h1 (sndE a C h1) (sndO lo C h2) (sndO hi C h3)) rfl
  | .call f es, W, sc, sct, X, e, C, h => by
    rcases iv_call h with ⟨rfl, x, p, pos, rfl, h1, h2⟩ | ⟨x, p, y, ys, pos, rfl, h1, h2, h3⟩
    · exact .plain (e_call0 C h1 h2) rfl
    · exact .plain (e_call C h1 h2 (all_plain h3) (sndEs es C h3)) rfl
  | .sset a, W, sc, sct, X, e, C, h => by
    obtain ⟨x, p, y, p2, z, pos2, pos, rfl, h1, h2, h3, h4, h5, h6⟩ := iv_sset h
    exact .plain (e_sset C h1 h2 h3 h4 h5 h6 (sndE a C h6)) rfl
  | .srt a, W, sc, sct, X, e, C, h => by
    obtain ⟨x, p, z, pos, rfl, h1, h2, h3, h4⟩ := iv_srt h
    exact .plain (e_srt C h1 h2 h3 h4 (sndE a C h4)) rfl
  | .kget y a, W, sc, sct, X, e, C, h => by
    obtain ⟨x, p, z, pos, rfl, h1, h2, h3, h4, h5, h6⟩ := iv_kget h
    exact .plain (e_kget C h1 h2 h3 h4 h5 (sndE a C h6)) rfl
  | .kin neg y a, W, sc, sct, X, e, C, h => by
    obtain ⟨x, p, z, pos, rfl, h1, h2, h3, h4, h5⟩ := iv_kin h
    cases neg with
    | false => exact e_kin C h1 h2 h3 h4 (sndE a C h5)
    | true => exact e_knin C h1 h2 h3 h4 (sndE a C h5)
  | .dct es, W, sc, sct, X, e, C, h => by
    obtain ⟨ks, vs, pos, rfl, h1, h2⟩ := iv_dct h
    exact .plain (e_dct C h1 h2 (sndPs es C h2)) rfl
  | .mx a b, W, sc, sct, X, e, C, h => by
    obtain ⟨x, p, y, z, pos, rfl, h1, h2, h3, h4, h5, h6⟩ := iv_mx h
    exact .plain (e_mx C h1 h2 h3 h4 (sndE a C h5) (sndE b C h6)) rfl
  | .blt f a, W, sc, sct, X, e, C, h => by
    obtain ⟨x, p, y, pos, rfl, h1, h2⟩ := iv_blt h
    exact .plain (e_blt C h1 h2 (sndE a C h2)) rfl
  | .isi a t, W, sc, sct, X, e, C, h => by
    obtain ⟨x, p, y, z, p2, pos, rfl, h1, h2, h3, h4, h5, h6⟩ := iv_isi h
    exact .plain (e_isi C h1 h2 h3 h5 h6 (sndE a C h4)) rfl
  | .lc a tg it cond own, W, sc, sct, X, e, C, h => by
    obtain ⟨y, t, i, ifs, scope, pos, rfl, h1, h2, h3, h4, h5, h6, h7⟩ := iv_lc h
    exact .plain (e_lc C (sndI it C h1) h2 h3 h4 h7 (fun X' C' hK => sndC cond C' h5) (fun X' C' hK => sndE a C' h6)) rfl
  | .alloc a, W, sc, sct, X, e, C, h => by
    obtain ⟨h1, h2⟩ := iv_alloc h
    exact .plain (e_alloc (sndE a C h2)) (alloc_plain h1)
  | .fld c a f, W, sc, sct, X, e, C, h => by
    obtain ⟨x, y, p, rfl, h1, h2, h3, h4⟩ := iv_fld h
    exact .plain (e_fld C h1 h2 h3 (sndE a C h4)) rfl
  | .meth o c m key es, W, sc, sct, X, e, C, h => by
    rcases iv_meth h with ⟨rfl, x, y, ap, p, rfl, h1, h2, h3, h4, h5⟩ | ⟨x, y, ap, z, zs, p, rfl, h1, h2, h3, h4, h5, h6, h7⟩
    · exact .plain (e_meth0 C h1 h2 h3 h4 (sndE o C h5)) rfl
    · exact .plain (e_meth C h1 h2 h3 h4 h5 (all_plain h7) (sndE o C h6) (sndEs es C h7)) rfl
  | .make c es, W, sc, sct, X, e, C, h => by
    rcases iv_make h with ⟨rfl, x, p, pos, rfl, h1, h2⟩ | ⟨x, p, z, zs, pos, rfl, h1, h2, h3⟩
    · exact .plain (e_make0 C h1 h2) rfl
    · exact .plain (e_make C h1 h2 (all_plain h3) (sndEs es C h3)) rfl
  | .never, W, sc, sct, X, e, C, h => .plain e_never (iv_never h)
theorem sndEs : ∀ (es : MEs) {W : WX} {sc sct : Scope} {X : Cx} {xs : List Expr}, Ctx G cla n W FN N sc sct X → mtEs FN N sc es xs = true → PA X xs (tVs X.K cla W (EvEs G n es))
  | .nil, W, sc, sct, X, xs, C, h => by
    rw [iv_nil h]; exact e_nil
  | .cons a es, W, sc, sct, X, xs, C, h => by
    obtain ⟨x, r, rfl, h1, h2, h3⟩ := iv_cons h
    exact e_cons h1 (sndE a C h2) (sndEs es C h3)
theorem sndPs : ∀ (es : MEs) {W : WX} {sc sct : Scope} {X : Cx} {ks : List (Option Expr)} {vs : List Expr} {pos : Pos}, Ctx G cla n W FN N sc sct X → mtPs FN N sc es ks vs = true → PsR X cla W pos ks vs (EvEs G n es)
  | .nil, W, sc, sct, X, ks, vs, pos, C, h => by
    match ks, vs, h with
    | [], [], _ => exact ps_nil
    | [], _ :: _, h => simp [mtPs] at h
    | none :: _, _, h => simp [mtPs] at h
    | some _ :: _, _, h => simp [mtPs] at h
  | .cons _ .nil, W, sc, sct, X, ks, vs, pos, C, h => by
    match ks, vs, h with
    | [], _, h => simp [mtPs] at h
    | none :: _, _, h => simp [mtPs] at h
    | some _ :: _, _, h => simp [mtPs] at h
  | .cons k (.cons v es), W, sc, sct, X, ks, vs, pos, C, h => by
    obtain ⟨x, y, ks', vs', rfl, rfl, h1, h2, h3⟩ := iv_ps h
    exact ps_cons (sndE k C h1) (sndE v C h2) (sndPs es C h3)
theorem sndO : ∀ (es : MEs) {W : WX} {sc sct : Scope} {X : Cx} {x : Option Expr}, Ctx G cla n W FN N sc sct X → mtO FN N sc es x = true → PO X x (tP X.K cla W (evalP G.consts (callN G n) es))
  | .nil, W, sc, sct, X, x, C, h => by
    cases x with
    | none => exact e_po0
    | some x => simp [mtO] at h
  | .cons a .nil, W, sc, sct, X, x, C, h => by
    cases x with
    | none => simp [mtO] at h
    | some x => exact e_po1 (sndE a C (by simpa [mtO] using h))
  | .cons a (.cons _ _), W, sc, sct, X, x, C, h => by
    cases x <;> simp [mtO] at h
theorem sndC : ∀ (es : MEs) {W : WX} {sc sct : Scope} {X : Cx} {xs : List Expr}, Ctx G cla n W FN N sc sct X → mtC FN N sc es xs = true → PTs X xs (tT X.K cla W (evalT G.consts (callN G n) es))
  | .nil, W, sc, sct, X, x, C, h => by
    cases x with
    | nil => exact PTs.imp pts_nil fun σ H Q ⟨g, τ, m, S, q⟩ => q true H g .refl S rfl
    | cons x _ => simp [mtC] at h
  | .cons a .nil, W, sc, sct, X, x, C, h => by
    match x, h with
    | [], h => simp [mtC] at h
    | _ :: _ :: _, h => simp [mtC] at h
    | [x], h => exact pts_one (sndE a C (by simpa [mtC] using h)).pt
  | .cons a (.cons _ _), W, sc, sct, X, x, C, h => by
    cases x <;> simp [mtC] at h
theorem sndI : ∀ (it : MI) {W : WX} {sc sct : Scope} {X : Cx} {t x : Expr}, Ctx G cla n W FN N sc sct X → mtI FN N sc it t x = true → PI X t x (tI X.K cla W (EvI G n it))
  | .seq e, W, sc, sct, X, t, x, C, h => e_seq (sndE e C (by simpa [mtI] using h))
  | .range1 a, W, sc, sct, X, t, x, C, h => by
    cases x <;> first | (simp [mtI] at h; done) | skip
    rename_i g as ks p
    cases g <;> first | (simp [mtI] at h; done) | skip
    rename_i f p2
    match as, ks, h with
    | [], _, h => simp [mtI] at h
    | _ :: _ :: _, _, h => simp [mtI] at h
    | [_], _ :: _, h => simp [mtI] at h
    | [y], [], h =>
      rw [mtI] at h
      simp only [Bool.and_eq_true, decide_eq_true_eq] at h
      obtain ⟨⟨⟨rfl, h2⟩, h3⟩, h4⟩ := h
      exact e_rng1 C h2 h3 (sndE a C h4)
  | .range2 a b, W, sc, sct, X, t, x, C, h => by
    cases x <;> first | (simp [mtI] at h; done) | skip
    rename_i g as ks p
    cases g <;> first | (simp [mtI] at h; done) | skip
    rename_i f p2
    match as, ks, h with
    | [], _, h => simp [mtI] at h
    | [_], _, h => simp [mtI] at h
    | _ :: _ :: _ :: _, _, h => simp [mtI] at h
    | [_, _], _ :: _, h => simp [mtI] at h
    | [y, z], [], h =>
      rw [mtI] at h
      simp only [Bool.and_eq_true, decide_eq_true_eq] at h
      obtain ⟨⟨⟨⟨⟨rfl, h2⟩, h3⟩, h4⟩, h5⟩, h6⟩ := h
      exact e_rng2 C h2 h3 h4 (sndE a C h5) (sndE b C h6)
  | .zip a b, W, sc, sct, X, t, x, C, h => by
    cases t <;> first | (simp [mtI] at h; done) | skip
    cases x <;> first | (simp [mtI] at h; done) | skip
    rename_i g as ks p
    cases g <;> first | (simp [mtI] at h; done) | skip
    rename_i f p2
    match as, ks, h with
    | [], _, h => simp [mtI] at h
    | [_], _, h => simp [mtI] at h
    | _ :: _ :: _ :: _, _, h => simp [mtI] at h
    | [_, _], _ :: _, h => simp [mtI] at h
    | [y, z], [], h =>
      rw [mtI] at h
      simp only [Bool.and_eq_true, decide_eq_true_eq] at h
      obtain ⟨⟨⟨⟨⟨rfl, h2⟩, h3⟩, h4⟩, h5⟩, h6⟩ := h
      exact e_zip C h2 h3 h4 (sndE a C h5) (sndE b C h6)
end
end
end P3
set_option Elab.async false
set_option linter.all false
set_option maxRecDepth 100000
set_option maxHeartbeats 0
/-! P3N: statements: what a run of them promises -/
namespace P3
open PySem L2
theorem PS.imp {X : Cx} {e : Stmt} {t t' : TS} (h : PS X e t) (i : ∀ D σ H, t' D σ H → t D σ H) : PS X e t' := ⟨fun pins s σ H D I q => h.run pins s σ H D I (i D σ H q)⟩
theorem PSs.imp {X : Cx} {e : List Stmt} {t t' : TS} (h : PSs X e t) (i : ∀ D σ H, t' D σ H → t D σ H) : PSs X e t' := ⟨fun pins s σ H D I q => h.run pins s σ H D I (i D σ H q)⟩
theorem PE.or {X : Cx} {e : Expr} {t t' : TE} (h : PE X e t) (h' : PE X e t') : PE X e (fun σ H R => t σ H R ∨ t' σ H R) := ⟨fun pins s σ H Q I q => q.elim (h.run pins s σ H Q I) (h'.run pins s σ H Q I)⟩
section
variable (K : PySem.W.Frag) (cla : String → Addr)
/-- behind statements that were run from (H0, g0) -/
def AftS (H0 : Hp) (g0 : Gh) (W : WX) (o : SOut) (Z : Ends) : Prop := match o with
  | .stuck => False
  | .nx τ m => ∀ σ H g, Ext H0 g0 H g → SR K cla H g σ τ m → Z.nx σ H
  | .ct τ m => ∀ σ H g, Ext H0 g0 H g → SR K cla H g σ τ m → Z.ct σ H
  | .bk τ m => ∀ σ H g, Ext H0 g0 H g → SR K cla H g σ τ m → Z.bk σ H
  | .ret r m => ∀ v H g, Ext H0 g0 H g → SH K cla H g m → (∀ i, g.ow (.slot i) = none) → RvR K H0 g0 H g v r → Z.rt v H
  | .exc e τ m => ∀ c d σ H g, Ext H0 g0 H g → SR K cla H g σ τ m → ExR K cla H g c d e → W c d σ H
def tS (W : WX) (ev : Tau → Mem → SOut) : TS := fun Z σ H => ∃ g τ m, SR K cla H g σ τ m ∧ AftS K cla H g W (ev τ m) Z
end
section
variable {K : PySem.W.Frag} {cla : String → Addr} {H H0 H1 : Hp} {g g0 g1 : Gh} {σ : St} {τ : Tau} {m m1 : Mem} {W : WX} {Z Z' : Ends}
theorem AftS.from {o : SOut} (h : AftS K cla H0 g0 W o Z) (E : Ext H0 g0 H1 g1) : AftS K cla H1 g1 W o Z := by
  cases o with
  | stuck => exact h
  | nx τ m => exact fun σ H g E' S => h σ H g (E.trans E') S
  | ct τ m => exact fun σ H g E' S => h σ H g (E.trans E') S
  | bk τ m => exact fun σ H g E' S => h σ H g (E.trans E') S
  | ret r m => exact fun v H g E' S n rr => h v H g (E.trans E') S n (rr.base E)
  | exc e τ m => exact fun c d σ H g E' S rr => h c d σ H g (E.trans E') S rr
/-- a piece, then statements -/
theorem AftS.bind {α β : Type} {R : Hp → Gh → β → α → Prop} {o : Out α} {k : α → Mem → SOut} {Q1 : β → Hp → Prop}
    (h : AftS K cla H g W (outS o τ k) Z) (hk : ∀ a m1 x H1 g1, o = .ok a m1 → Ext H g H1 g1 → SR K cla H1 g1 σ τ m1 → R H1 g1 x a → AftS K cla H g W (k a m1) Z → Q1 x H1) : Aft K cla R H g σ τ W o Q1 := by
  cases o with
  | stuck => exact h
  | exc e m => exact fun c d H1 g1 E S rr => h c d σ H1 g1 E S rr
  | ok a m1 =>
    intro x H1 g1 E S r
    exact hk a m1 x H1 g1 rfl E S r h
theorem AftS.opt {o : Option Tau} {f : Tau → SOut} (h : AftS K cla H g W (match o with | some τ' => f τ' | none => .stuck) Z) : ∃ τ', o = some τ' ∧ AftS K cla H g W (f τ') Z := by
  cases o with
  | none => exact h.elim
  | some a => exact ⟨a, rfl, h⟩
theorem AftS.seq {o : SOut} {k : Tau → Mem → SOut} (h : AftS K cla H g W (o.andThen k) Z) (hD : ∀ τ m σ H1 g1, SR K cla H1 g1 σ τ m → AftS K cla H1 g1 W (k τ m) Z → Z'.nx σ H1) (hc : Z'.ct = Z.ct) (hb : Z'.bk = Z.bk) (hr : Z'.rt = Z.rt) : AftS K cla H g W o Z' := by
  cases o with
  | stuck => exact h
  | nx τ m => exact fun σ H1 g1 E S => hD τ m σ H1 g1 S (AftS.from (show AftS K cla H g W (k τ m) Z from h) E)
  | ct τ m => intro σ H1 g1 E S; rw [hc]; exact h σ H1 g1 E S
  | bk τ m => intro σ H1 g1 E S; rw [hb]; exact h σ H1 g1 E S
  | ret r m => intro v H1 g1 E S n rr; rw [hr]; exact h v H1 g1 E S n rr
  | exc e τ m => exact h
/-- behind the returned value: the slots are gone -/
theorem Ext.call (E : Ext H0 g0 H g) : Ext H0 g0 H g.call := ⟨E.le.trans Gh.call_le, E.keep, E.there, fun w a q => E.new w a (Gh.call_ow q).1, E.nfr⟩
theorem RvR.call {v : V} {r : Rv} (h : RvR K H0 g0 H g v r) : RvR K H0 g0 H g.call v r := by
  cases r with
  | val d => exact VR.mono Gh.call_le h
  | own c =>
    obtain ⟨a, e, cr, z, n, b⟩ := h
    exact ⟨a, e, cr.mono rfl Gh.call_le, z, fun w q => n w (Gh.call_ow q).1, b⟩
/-- a slot's container is let go -/
theorem SR.dropSlot {i : Nat} (S : SR K cla H g σ τ m) : SR K cla H (g.drop (.slot i)) σ (τ.set i none) m := by
  have S1 := S.setVal (i := i) (v := .non) (d := .non) .non
  refine S1.weak (by rw [List.length_set]; exact S.len) fun j s e => ?_
  by_cases hj : i = j
  · subst hj
    by_cases hi : i < τ.length
    · rw [List.getElem?_set_self hi] at e; cases e
    · rw [List.getElem?_eq_none (by rw [List.length_set]; omega)] at e; cases e
  · rw [List.getElem?_set_ne hj] at e
    exact ⟨by rw [List.getElem?_set_ne hj]; exact e, by rw [List.getElem?_set_ne hj]⟩
theorem Gh.drop_le {w : Own} (hw : ∀ l, w ≠ .loc l) : g.le (g.drop w) := ⟨fun _ _ q => q, fun l b q => by
  show (if Own.loc l = w then none else g.ow (.loc l)) = some b
  rw [if_neg (fun z => hw l z.symm)]; exact q⟩
theorem SR.freezeSlot {i : Nat} {c : Ct} (S : SR K cla H g σ τ m) (ht : τ[i]? = some (some (.own c))) : ∃ g', Ext H g H g' ∧ SR K cla H g' σ (τ.set i (some (.val c.toD))) m := by
  obtain ⟨v, e1, a, e2, ow, cr⟩ := S.slot i _ ht
  obtain ⟨o, ho⟩ := cr.ho
  have S1 := S.dropSlot (i := i)
  have nw : ∀ w, (g.drop (.slot i)).ow w ≠ some a := fun w q => by
    have q : (if w = .slot i then none else g.ow w) = some a := q
    by_cases z : w = .slot i
    · rw [if_pos z] at q; cases q
    · rw [if_neg z] at q; exact z (S.inj _ _ a q ow)
  have nz : (g.drop (.slot i)).fz a = none := S.nfz _ _ ow
  have S2 := S1.freeze ho nw nz
  have le0 : g.le (g.drop (.slot i)) := Gh.drop_le (fun l z => by cases z)
  refine ⟨(g.drop (.slot i)).freeze a o, (Ext.refl.drop (fun l => by intro z; cases z)).freeze nz (.inr ⟨_, ow⟩), ⟨S2.toSH, by rw [List.length_set]; exact S.len, fun j s e => ?_⟩⟩
  by_cases hj : i = j
  · subst hj
    have hi : i < τ.length := (List.getElem?_eq_some_iff.mp ht).1
    rw [List.getElem?_set_self hi] at e
    cases e
    subst e2
    exact ⟨_, e1, Ct.toD_R cr ho (le0.trans (Gh.freeze_le nz)) Gh.freeze_at⟩
  · rw [List.getElem?_set_ne hj] at e
    exact S2.slot j s (by rw [List.getElem?_set_ne hj]; exact e)
/-- a value or a new container into a slot -/
theorem SR.setRv {i : Nat} {v : V} {r : Rv} (S : SR K cla H g σ τ m) (rr : RvR K H0 g0 H g v r) (E : Ext H0 g0 H g) : ∃ g', Ext H0 g0 H g' ∧ SR K cla H g' (σ.set i (some v)) (τ.set i (some r.slot)) m := by
  cases r with
  | val d => exact ⟨_, E.drop (fun l => by intro z; cases z), S.setVal rr⟩
  | own c =>
    obtain ⟨a, rfl, cr, z, n, b⟩ := rr
    exact ⟨_, E.give (fun l hl => by cases hl) b, S.setOwn cr n z⟩
/-! ### objects that are written -/
/-- what an object's expression gives: a slot's own container, or data -/
def PkO (K : PySem.W.Frag) (σ : St) (τ : Tau) (g : Gh) (ow : Option (Nat × Ct)) (v : V) (d : D) : Prop := match ow with
  | some (k, c) => τ[k]? = some (some (.own c)) ∧ σ[k]? = some (some v) ∧ d = c.toD
  | none => VR K g v d
theorem PkO.mono {ow : Option (Nat × Ct)} {v : V} {d : D} (h : PkO K σ τ g ow v d) (le : g.le g1) : PkO K σ τ g1 ow v d := by
  cases ow with
  | none => exact VR.mono le h
  | some p => exact h
/-- the container -/
theorem PkO.at {ow : Option (Nat × Ct)} {v : V} {x : D} {f : Ct → Option Ct} (h : PkO K σ τ g ow v x) (S : SR K cla H g σ τ m) (q : AftS K cla H g W (putS ow τ m x f) Z) :
    ∃ a c c', v = .ref a ∧ CR K H g a c ∧ f c = some c' ∧ ∀ o, CR K (upd H a o) g a c' → Z.nx σ (upd H a o) := by
  cases ow with
  | some p =>
    obtain ⟨k, c⟩ := p
    obtain ⟨h1, h2, rfl⟩ := h
    obtain ⟨v', e1, a, e2, w, cr⟩ := S.slot k _ h1
    rw [h2] at e1; cases e1
    simp only [putS] at q
    cases hf : f c with
    | none => rw [hf] at q; exact q.elim
    | some c' =>
      rw [hf] at q
      subst e2
      exact ⟨a, c, c', rfl, cr, hf, fun o r => q σ _ g (Ext.refl.write w) (S.writeSlot (g' := g) w h2 r)⟩
  | none =>
    simp only [putS] at q
    cases hc : ctAt m x with
    | none => rw [hc] at q; exact q.elim
    | some p =>
      obtain ⟨l, c⟩ := p
      rw [hc] at q
      simp only at q
      cases x <;> first | (simp [ctAt] at hc; done) | skip
      rename_i l'
      have hc : (match m[l']? with | some (.ct c) => some (l', c) | _ => none) = some (l, c) := hc
      split at hc <;> cases hc
      rename_i e
      cases h with
      | loc w =>
        rename_i a
        obtain ⟨a', w', cr⟩ := S.obj l _ e
        rw [w] at w'; cases w'
        cases hf : f c with
        | none => rw [hf] at q; exact q.elim
        | some c' =>
          rw [hf] at q
          exact ⟨a, c, c', rfl, cr, hf, fun o r => q σ _ g (Ext.refl.write w) (S.writeLoc w r)⟩
theorem put_ok {ow : Option (Nat × Ct)} {x v : V} {xd yd d : D} {i : V} (h : PkO K σ τ g ow x xd) (ri : VR K g i yd) (rv : VR K g v d) (S : SR K cla H g σ τ m) (q : AftS K cla H g W (putS ow τ m xd (putAt · yd d)) Z) :
    rSetL x i v H fun H' => Z.nx σ H' := by
  obtain ⟨a, c, c', rfl, cr, hf, go⟩ := h.at S q
  unfold putAt at hf
  split at hf
  · rename_i xs k
    cases ri
    obtain ⟨j, hj, rfl⟩ := Option.map_eq_some_iff.mp hf
    obtain ⟨vs, e, r⟩ := cr
    exact ⟨a, vs, k, j, rfl, rfl, e, by rw [r.length]; exact hj, go _ ⟨_, upd_same, r.set rv j⟩⟩
  · cases hf
theorem push_ok {ow : Option (Nat × Ct)} {x v : V} {xd d : D} (h : PkO K σ τ g ow x xd) (rv : VR K g v d) (S : SR K cla H g σ τ m) (q : AftS K cla H g W (putS ow τ m xd (pushAt · d)) Z) :
    tyV K "list" x H ∧ rAppend x [v] H fun _ H' => Z.nx σ H' := by
  obtain ⟨a, c, c', rfl, cr, hf, go⟩ := h.at S q
  unfold pushAt at hf
  split at hf
  · rename_i xs
    split at hf
    · rename_i hl
      cases hf
      obtain ⟨vs, e, r⟩ := cr
      exact ⟨.inl ⟨rfl, vs, .inl (.inl e)⟩, a, vs, v, rfl, rfl, e, by rw [r.length]; exact Nat.lt_of_lt_of_le hl lim_le, go _ ⟨_, upd_same, r.append (.one rv)⟩⟩
    · cases hf
  · cases hf
theorem ext_ok {ow : Option (Nat × Ct)} {x v : V} {xd d : D} (h : PkO K σ τ g ow x xd) (rv : VR K g v d) (S : SR K cla H g σ τ m) (q : AftS K cla H g W (putS ow τ m xd (extAt · d)) Z) :
    rExtA K x [v] H fun _ H' => Z.nx σ H' := by
  obtain ⟨a, c, c', rfl, cr, hf, go⟩ := h.at S q
  unfold extAt at hf
  split at hf
  · split at hf
    · rename_i xs ys hl
      cases hf
      obtain ⟨vs, e, r⟩ := cr
      cases rv with
      | tup hb rb =>
        exact ⟨a, _, vs, _, rfl, rfl, e, .inl (S.tupR hb), by rw [r.length, rb.length]; exact to_line hl, go _ ⟨_, upd_same, r.append rb⟩⟩
    · cases hf
  · split at hf
    · rename_i xs ys hl
      cases hf
      obtain ⟨vs, e, r⟩ := cr
      cases rv with
      | fl hb rb =>
        exact ⟨a, _, vs, _, rfl, rfl, e, .inr (S.lstR hb), by rw [r.length, rb.length]; exact to_line hl, go _ ⟨_, upd_same, r.append rb⟩⟩
    · cases hf
  · cases hf
end
end P3
set_option Elab.async false
set_option linter.all false
set_option maxRecDepth 100000
set_option maxHeartbeats 0
/-! P3O: every statement -/
namespace P3
open PySem L2
theorem sw_no {e : Expr} {t : Option Expr} {l : Nat} {env : Env} (h : isComp e = false) : swapsWith e t l env = pure false := by
  cases e <;> first | rfl | cases h
theorem sws_no {e t : Expr} {l : Nat} {env : Env} (h : isComp e = false) : swapsWithSole [t] e l env = pure false := sw_no h
theorem asg_sub {x y : Expr} {pt : Pos} {env : Env} (hy : plainX y = true) (v : Value) : assign (.Subscript x y pt) env v = (do
      let ov ← holding [v] (eval x env)
      let iv ← holding [v, ov] (eval y env)
      standAt pt
      holding [v, ov, iv] (setItem ov iv v)
      release [v, ov, iv] []) := by
  cases y <;> first | rfl | cases hy
theorem st_no {ts : List Expr} {k : Nat} {p : Pos} {e : Expr} {env : Env} (h : foldX ts e = true) : swappedStores [.Tuple ts k p] e env = pure none := by
  cases e <;> first | rfl | skip
  rename_i vs k2 p2
  simp only [foldX, Bool.or_eq_true] at h
  unfold swappedStores
  simp only
  split
  · rfl
  · rename_i h1
    rcases h with h | h
    · split
      · rfl
      · split
        · rfl
        · simp [h]
    · exfalso
      apply h1
      simp only [Bool.or_eq_true]
      exact .inl (.inl h)
section
variable {G : GE} {cla : String → Addr} {n : Nat} {W : WX} {FN : Tb} {N : List Str} {sc : Scope} {X : Cx}
noncomputable abbrev RunS (G : GE) (n : Nat) (s : MS) : Tau → Mem → SOut := runS G.consts (callN G n) s
noncomputable abbrev RunSs (G : GE) (n : Nat) (s : MSs) : Tau → Mem → SOut := runSs G.consts (callN G n) s
theorem Snd.pkO {e : Expr} {me : ME} {sct : Scope} (C : Ctx G cla n W FN N sc sct X) (hm : mtE FN N sc me e = true) (h : Snd G cla n W X e me) :
    PE X e (fun σ H Q => ∃ g τ m, SR X.K cla H g σ τ m ∧ Aft X.K cla (fun _ g v d => PkO X.K σ τ g (me.own? τ) v d) H g σ τ W (P3.pk me τ m (evalE G.consts (callN G n) me τ m)) Q) := by
  by_cases hv : ∃ i, me = .var i
  · obtain ⟨i, rfl⟩ := hv
    obtain ⟨x, p, rfl, hs⟩ := iv_var hm
    refine PE.imp (snd_var C hs) fun σ H Q ⟨g, τ, m, S, q⟩ => ?_
    cases ht : τ[i]? with
    | none => simp [P3.pk, ME.own?, ht, evalE, toV, Out.bind, Aft] at q
    | some o =>
      cases o with
      | none => simp [P3.pk, ME.own?, ht, evalE, toV, Out.bind, Aft] at q
      | some s =>
        obtain ⟨v, e1, r⟩ := S.slot i s ht
        refine ⟨v, e1, ?_⟩
        cases s with
        | val d =>
          simp only [P3.pk, ME.own?, ht, evalE, toV, Out.bind] at q
          exact q v H g .refl S r
        | own c =>
          simp only [P3.pk, ME.own?, ht] at q
          exact q v H g .refl S ⟨ht, e1, rfl⟩
  · have ho : ∀ τ, me.own? τ = none := fun τ => by
      cases me <;> first | rfl | exact absurd ⟨_, rfl⟩ hv
    refine PE.imp h.v fun σ H Q ⟨g, τ, m, S, q⟩ => ⟨g, τ, m, S, ?_⟩
    have e : P3.pk me τ m (evalE G.consts (callN G n) me τ m) = toV (evalE G.consts (callN G n) me τ m) := by unfold P3.pk; rw [ho]
    rw [e] at q
    simp only [ho] at q
    exact q
/-- the rule of a statement, by the run -/
abbrev SndS (G : GE) (cla : String → Addr) (n : Nat) (W : WX) (X : Cx) (st : Stmt) (s : MS) : Prop := PS X st (tS X.K cla W (RunS G n s))
abbrev SndSs (G : GE) (cla : String → Addr) (n : Nat) (W : WX) (X : Cx) (st : List Stmt) (s : MSs) : Prop := PSs X st (tS X.K cla W (RunSs G n s))
theorem s_pass {p : Pos} : SndS G cla n W X (.Pass p) .pass := PS.imp ps_pass fun Z σ H ⟨g, τ, m, S, q⟩ => q σ H g .refl S
theorem s_cont {p : Pos} : SndS G cla n W X (.Continue p) .cont := PS.imp ps_continue fun Z σ H ⟨g, τ, m, S, q⟩ => q σ H g .refl S
theorem s_brk {p : Pos} : SndS G cla n W X (.Break p) .brk := PS.imp ps_break fun Z σ H ⟨g, τ, m, S, q⟩ => q σ H g .refl S
theorem s_retN {p : Pos} : SndS G cla n W X (.Return none p) .retN := PS.imp ps_retN fun Z σ H ⟨g, τ, m, S, q⟩ =>
  q .non H g.call (Ext.call .refl) S.call (fun i => rfl) .non
theorem s_expr {e : ME} {x : Expr} {p : Pos} (he : Snd G cla n W X x e) (hs : isComp x = false) : SndS G cla n W X (.Expr x p) (.expr e) :=
  PS.imp (ps_expr he.pe (sw_no hs)) fun Z σ H ⟨g, τ, m, S, q⟩ => by
    exact ⟨g, τ, m, S, AftS.bind q fun r m1 v H1 g1 _ E1 S1 rr q1 => q1 σ H1 g1 E1 S1⟩
theorem ret_own {τ : Tau} {e : ME} {k : Nat} {c : Ct} (h : e.own? τ = some (k, c)) : e = .var k ∧ τ[k]? = some (some (.own c)) := by
  cases e <;> first | (simp [ME.own?] at h; done) | skip
  rename_i i
  unfold ME.own? at h
  cases ht : τ[i]? with
  | none => simp [ht] at h
  | some o =>
    cases o with
    | none => simp [ht] at h
    | some s =>
      cases s with
      | val d => simp [ht] at h
      | own c' =>
        simp [ht] at h
        obtain ⟨rfl, rfl⟩ := h
        exact ⟨rfl, ht⟩
theorem s_ret {e : ME} {x : Expr} {p : Pos} (C : Ctx G cla n W FN N sc sc X) (hm : mtE FN N sc e x = true) (he : Snd G cla n W X x e) : SndS G cla n W X (.Return (some x) p) (.ret e) := by
  have hplain : ∀ τ m, e.own? τ = none → RunS G n (.ret e) τ m = outS (EvE G n e τ m) τ fun r m1 => .ret r m1 := fun τ m h => by
    show (match e.own? τ with | some (_, c) => SOut.ret (.own c) m | none => outS (evalE G.consts (callN G n) e τ m) τ fun r m1 => .ret r m1) = _
    rw [h]
  have hown : ∀ τ m k c, e.own? τ = some (k, c) → RunS G n (.ret e) τ m = .ret (.own c) m := fun τ m k c h => by
    show (match e.own? τ with | some (_, c) => SOut.ret (.own c) m | none => outS (evalE G.consts (callN G n) e τ m) τ fun r m1 => .ret r m1) = _
    rw [h]
  by_cases hv : ∃ i, e = .var i
  · obtain ⟨i, rfl⟩ := hv
    obtain ⟨y, py, rfl, hs⟩ := iv_var hm
    refine PS.imp (ps_ret (snd_var C hs)) fun Z σ H ⟨g, τ, m, S, q⟩ => ?_
    cases ht : τ[i]? with
    | none => rw [hplain τ m (by simp [ME.own?, ht])] at q; simp [EvE, evalE, ht, outS, AftS] at q
    | some o =>
      cases o with
      | none => rw [hplain τ m (by simp [ME.own?, ht])] at q; simp [EvE, evalE, ht, outS, AftS] at q
      | some s =>
        obtain ⟨v, e1, r⟩ := S.slot i s ht
        refine ⟨v, e1, ?_⟩
        cases s with
        | val d =>
          rw [hplain τ m (by simp [ME.own?, ht])] at q
          simp only [EvE, evalE, ht, outS] at q
          exact q v H g.call (Ext.call .refl) S.call (fun i => rfl) (VR.mono Gh.call_le r)
        | own c =>
          rw [hown τ m i c (by simp [ME.own?, ht])] at q
          obtain ⟨a, rfl, w, cr⟩ := r
          exact q _ H g.call (Ext.call .refl) S.call (fun i => rfl) ⟨a, rfl, cr.mono rfl Gh.call_le, S.nfz _ _ w, fun w' q' => by
            obtain ⟨q1, q2⟩ := Gh.call_ow q'
            exact q2 i (S.inj _ _ a q1 w), .inr ⟨_, w⟩⟩
  · have ho : ∀ τ, e.own? τ = none := fun τ => by
      cases e <;> first | rfl | exact absurd ⟨_, rfl⟩ hv
    refine PS.imp (ps_ret he.pe) fun Z σ H ⟨g, τ, m, S, q⟩ => ?_
    rw [hplain τ m (ho τ)] at q
    exact ⟨g, τ, m, S, AftS.bind q fun r m1 v H1 g1 _ E1 S1 rr q1 => q1 v H1 g1.call (Ext.call E1) S1.call (fun i => rfl) (RvR.call rr)⟩
theorem s_set {i : Nat} {y : Str} {e : ME} {x : Expr} {p py : Pos} (C : Ctx G cla n W FN N sc sc X) (hi : N[i]? = some y) (hy : locB sc y = true) (hs : isComp x = false) (he : Snd G cla n W X x e) : SndS G cla n W X (.Assign [.Name y py] x p) (.set i e) := by
  obtain ⟨h1, h2⟩ := C.tgt y hy
  refine PS.imp (ps_set (by rw [C.names]; exact C.nd) (by rw [C.names]; exact hi) h1 he.pe (sw_no hs) h2) fun Z σ H ⟨g, τ, m, S, q⟩ => ?_
  refine ⟨g, τ, m, S, AftS.bind q fun r m1 v H1 g1 _ E1 S1 rr q1 => ?_⟩
  obtain ⟨g2, E2, S2⟩ := S1.setRv (i := i) rr E1
  exact q1 _ H1 g2 E2 S2
theorem s_asg {is : List Nat} {e : ME} {ts : List Expr} {x : Expr} {k : Nat} {p pt : Pos} (C : Ctx G cla n W FN N sc sc X) (ht : slotsB N sc is ts = true) (hs : isComp x = false) (hw : foldX ts x = true) (he : Snd G cla n W X x e) : SndS G cla n W X (.Assign [.Tuple ts k pt] x p) (.asg is e) := by
  refine PS.imp (ps_asg he.v (pg_tgt (tg := .tup is) C ht) (sws_no hs) (st_no hw)) fun Z σ H ⟨g, τ, m, S, q⟩ => ?_
  refine ⟨g, τ, m, S, AftS.bind q fun d m1 v H1 g1 _ E1 S1 rr q1 => ?_⟩
  obtain ⟨τ', e1, q2⟩ := AftS.opt (f := fun τ' => .nx τ' m1) q1
  exact tgt_ok (own := is) (σ0 := σ) (τ0 := τ) e1 S1 rr E1 .refl (by simp [Tgt.within]) fun σ' g' E' S' _ => q2 σ' H1 g' E' S'
theorem s_if {c : ME} {a b : MSs} {x : Expr} {pa pb : List Stmt} {p : Pos} (hc : Snd G cla n W X x c) (ha : SndSs G cla n W X pa a) (hb : SndSs G cla n W X pb b) : SndS G cla n W X (.If x pa pb p) (.iff c a b) :=
  PS.imp (ps_if hc.pt ha hb) fun Z σ H ⟨g, τ, m, S, q⟩ => by
    refine ⟨g, τ, m, S, AftS.bind q fun k m1 v H1 g1 _ E1 S1 rr q1 => ?_⟩
    have rr : v = k := rr
    subst rr
    have q1 := AftS.from q1 E1
    cases v with
    | true => simp only [if_true] at q1 ⊢; exact ⟨g1, τ, m1, S1, q1⟩
    | false => simp only [Bool.false_eq_true, if_false] at q1 ⊢; exact ⟨g1, τ, m1, S1, q1⟩
theorem s_setIdx {a i e : ME} {x y z : Expr} {p pt : Pos} (C : Ctx G cla n W FN N sc sc X) (ma : mtE FN N sc a x = true) (hs : isComp z = false) (hy : plainX y = true) (ha : Snd G cla n W X x a) (hi : Snd G cla n W X y i) (he : Snd G cla n W X z e) :
    SndS G cla n W X (.Assign [.Subscript x y pt] z p) (.setIdx a i e) := by
  refine PS.imp (ps_asg he.v (pg_sub (ha.pkO C ma) hi.v set_list (asg_sub hy)) (sws_no hs)) fun Z σ H ⟨g, τ, m, S, q⟩ => ?_
  refine ⟨g, τ, m, S, AftS.bind q fun d m1 v H1 g1 _ E1 S1 rv q1 => ?_⟩
  have q1 := AftS.from q1 E1
  refine ⟨g1, τ, m1, S1, AftS.bind q1 fun xd m2 xv H2 g2 _ E2 S2 rx q2 => ?_⟩
  have q2 := AftS.from q2 E2
  refine ⟨g2, τ, m2, S2, AftS.bind q2 fun yd m3 yv H3 g3 _ E3 S3 ry q3 => ?_⟩
  have q3 := AftS.from q3 E3
  exact put_ok (rx.mono E3.le) ry (VR.mono E3.le (VR.mono E2.le rv)) S3 q3
theorem lst_ty {K : PySem.W.Frag} {H : Hp} {g : Gh} {σ : St} {τ : Tau} {m : Mem} {ow : Option (Nat × Ct)} {v : V} {x : D} (h : PkO K σ τ g ow v x) (S : SR K cla H g σ τ m) (hl : lstAt ow m x = true) : tyV K "list" v H := by
  cases ow with
  | some p =>
    obtain ⟨k, c⟩ := p
    obtain ⟨h1, h2, rfl⟩ := h
    obtain ⟨v', e1, a, e2, w, cr⟩ := S.slot k _ h1
    rw [h2] at e1; cases e1
    subst e2
    cases c with
    | lst xs => obtain ⟨vs, e, r⟩ := cr; exact .inl ⟨rfl, vs, .inl (.inl e)⟩
    | dict _ => cases hl
  | none =>
    unfold lstAt at hl
    simp only at hl
    cases hc : ctAt m x with
    | none => rw [hc] at hl; cases hl
    | some p =>
      obtain ⟨l, c⟩ := p
      rw [hc] at hl
      cases c with
      | dict _ => cases hl
      | lst xs =>
        cases x <;> first | (simp [ctAt] at hc; done) | skip
        rename_i l'
        have hc : (match m[l']? with | some (.ct c) => some (l', c) | _ => none) = some (l, Ct.lst xs) := hc
        split at hc <;> cases hc
        rename_i e
        cases h with
        | loc w =>
          obtain ⟨a', w', vs, e2, _⟩ := S.obj l _ e
          rw [w] at w'; cases w'
          exact .inl ⟨rfl, vs, .inl (.inl e2)⟩
theorem s_append {a e : ME} {x y : Expr} {ap p pos : Pos} (C : Ctx G cla n W FN N sc sc X) (ma : mtE FN N sc a x = true) (hy : plainX y = true) (hx : recvX x = true) (hl : (ap.endLine == p.line) = true) (ha : Snd G cla n W X x a) (he : Snd G cla n W X y e) :
    SndS G cla n W X (.Expr (.Call (.Attribute x "append" ap) [y] [] p) pos) (.append a e) := by
  have hb : attributeBase x "append" X.env (eval x X.env) = eval x X.env := by
    cases x <;> first | rfl | cases hx
  have hst := star_of (env := X.env) (es := []) hy
  have hfew : ((backTo p (starEach (y :: []) X.env)).all (fun x => !x.1) && (backToKw p (keywordEach [] X.env)).all (fun x => x.1.isSome)
      && decide ((y :: []).length + ([] : List Keyword).length + (if ([] : List Keyword).isEmpty then 0 else 1) < 30)) = true := by rw [hst]; rfl
  refine PS.imp (ps_expr (pe_bm PySem.F.plainAttrs_list PySem.F.slot_list_append PySem.F.type_list_append mt_append (ha.pkO C ma) (pa_cons he.v pa_nil hst) hb hfew hl hst rfl)) fun Z σ H ⟨g, τ, m, S, q⟩ => ?_
  refine ⟨g, τ, m, S, AftS.bind q fun xd m1 xv H1 g1 _ E1 S1 rx q1 => ?_⟩
  have q1 := AftS.from q1 E1
  cases hla : lstAt (a.own? τ) m1 xd with
  | false => simp only [hla, if_true] at q1; exact q1.elim
  | true =>
    simp only [hla, Bool.true_eq_false, if_false] at q1
    refine ⟨lst_ty rx S1 hla, g1, τ, m1, S1, AftS.bind q1 fun d m2 v H2 g2 _ E2 S2 rv q2 => ?_⟩
    exact (push_ok (rx.mono E2.le) rv S2 (AftS.from q2 E2)).2
theorem s_extend {a e : ME} {x y : Expr} {ap p pos : Pos} (C : Ctx G cla n W FN N sc sc X) (ma : mtE FN N sc a x = true) (hy : plainX y = true) (hx : recvX x = true) (hl : (ap.endLine == p.line) = true) (ha : Snd G cla n W X x a) (he : Snd G cla n W X y e) :
    SndS G cla n W X (.Expr (.Call (.Attribute x "extend" ap) [y] [] p) pos) (.extend a e) := by
  have hb : attributeBase x "extend" X.env (eval x X.env) = eval x X.env := by
    cases x <;> first | rfl | cases hx
  have hst := star_of (env := X.env) (es := []) hy
  have hfew : ((backTo p (starEach (y :: []) X.env)).all (fun x => !x.1) && (backToKw p (keywordEach [] X.env)).all (fun x => x.1.isSome)
      && decide ((y :: []).length + ([] : List Keyword).length + (if ([] : List Keyword).isEmpty then 0 else 1) < 30)) = true := by rw [hst]; rfl
  refine PS.imp (ps_expr (pe_bm PySem.F.plainAttrs_list PySem.F.slot_list_extend PySem.F.type_list_extend mt_extA (ha.pkO C ma) (pa_cons he.v pa_nil hst) hb hfew hl hst rfl)) fun Z σ H ⟨g, τ, m, S, q⟩ => ?_
  refine ⟨g, τ, m, S, AftS.bind q fun xd m1 xv H1 g1 _ E1 S1 rx q1 => ?_⟩
  have q1 := AftS.from q1 E1
  cases hla : lstAt (a.own? τ) m1 xd with
  | false => simp only [hla, if_true] at q1; exact q1.elim
  | true =>
    simp only [hla, Bool.true_eq_false, if_false] at q1
    refine ⟨lst_ty rx S1 hla, g1, τ, m1, S1, AftS.bind q1 fun d m2 v H2 g2 _ E2 S2 rv q2 => ?_⟩
    exact ext_ok (rx.mono E2.le) rv S2 (AftS.from q2 E2)
end
end P3
set_option Elab.async false
set_option linter.all false
set_option maxRecDepth 100000
set_option maxHeartbeats 0
/-! P3W: instances: statements -/
namespace P3
open PySem L2
section
variable {G : GE} {cla : String → Addr} {n : Nat} {W : WX} {FN : Tb} {N : List Str} {sc : Scope} {X : Cx}
theorem slotVal_eq {o : Option (Option Slot)} {d : D} (h : slotVal o = some d) : o = some (some (.val d)) := by
  unfold slotVal at h
  split at h
  · cases h; rfl
  · cases h
theorem fldPut_eq {m m' : Mem} {c f : String} {s : Slot} {x : D} (h : fldPut m c f s x = some m') : ∃ l fs, x = .loc l ∧ m[l]? = some (.inst c fs) ∧ (setF f s fs).length < 900 ∧ m' = m.set l (.inst c (setF f s fs)) := by
  unfold fldPut at h
  split at h
  · rename_i l
    split at h
    · rename_i c' fs e
      split at h
      · rename_i hc
        cases h
        exact ⟨l, fs, rfl, hc.1 ▸ e, hc.2, rfl⟩
      · cases h
    · cases h
  · cases h
/-- behind an option -/
theorem AftS.optS {K : PySem.W.Frag} {α : Type} {o : Option α} {H : Hp} {g : Gh} {τ : Tau} {m : Mem} {k : α → Mem → SOut} {Z : Ends} (h : AftS K cla H g W (outS (P3.opt o m) τ k) Z) : ∃ a, o = some a ∧ AftS K cla H g W (k a m) Z := by
  cases o with
  | none => exact h.elim
  | some a => exact ⟨a, rfl, h⟩
theorem put_field {K : PySem.W.Frag} {H H0 : Hp} {g g0 : Gh} {σ : St} {τ : Tau} {m m' : Mem} {c f : String} {r : Rv} {u v : V} {x : D} {Z : Ends} (S : SR K cla H g σ τ m) (E : Ext H0 g0 H g) (ru : VR K g u x) (rr : RvR K H0 g0 H g v r) (hp : fldPut m c f r.slot x = some m')
    (hn : NoAttr K (cla c) (Str.ofString f)) (hc : Cls K (cla c)) (q : AftS K cla H0 g0 W (.nx τ m') Z) : ∃ a C dx fs, u = .ref a ∧ H a = some (.ins C dx fs) ∧ Cls K C ∧ NoAttr K C (Str.ofString f) ∧ fs.length < 1000 ∧ Z.nx σ (upd H a (.ins C dx (putF (Str.ofString f) v fs))) := by
  obtain ⟨l, fs, hx, hm, hlen, rfl⟩ := fldPut_eq hp
  obtain ⟨a, dx, fv, rfl, ha, hH, hF, nd, hl9⟩ := inst_at S ru hx hm
  refine ⟨a, cla c, dx, fv, rfl, hH, hc, hn, by rw [hF.len]; omega, ?_⟩
  have Ew : Ext H0 g0 (upd H a (.ins (cla c) dx (putF (Str.ofString f) v fv))) g := E.write ha
  cases r with
  | val d =>
    have S2 := S.setFldVal (f := f) (d := d) (v := v) hm ha hH hF nd hlen rr
    exact q σ _ _ (Ew.drop (fun l' z => by cases z)) S2
  | own k =>
    obtain ⟨b, rfl, cr, z, nw, bb⟩ := rr
    have S2 := S.setFldOwn (f := f) (c := k) (b := b) hm ha hH hF nd hlen cr nw z
    exact q σ _ _ (Ew.give (fun l' z => by cases z) bb) S2
theorem s_setFld {c f : String} {o : Nat} {e : ME} {x : Expr} {y z : Str} {p py pz : Pos} (C : Ctx G cla n W FN N sc sc X) (hF : FN.fa c f = true) (hs : isComp x = false) (hy : slotB N sc o y = true) (hz : Str.ofString f = z) (he : Snd G cla n W X x e) :
    SndS G cla n W X (.Assign [.Attribute (.Name y py) z pz] x p) (.setFld c o f e) := by
  subst hz
  obtain ⟨hc, hn⟩ := C.fa c f hF
  refine PS.imp (ps_fld (snd_var C hy) he.pe (sw_no hs)) fun Z σ H ⟨g, τ, m, S, q⟩ => ?_
  refine ⟨g, τ, m, S, AftS.bind q fun r m1 v H1 g1 _ E1 S1 rr q1 => ?_⟩
  obtain ⟨xd, e1, q2⟩ := AftS.optS q1
  obtain ⟨m3, e2, q3⟩ := AftS.optS q2
  obtain ⟨u, e3, ru⟩ := S1.slot o _ (slotVal_eq e1)
  exact ⟨u, e3, put_field S1 E1 ru rr e2 hn hc q3⟩
theorem s_frzFld {c f : String} {o : Nat} {ss : MSs} {p : List Stmt} (h : SndSs G cla n W X p ss) : SndSs G cla n W X p (.cons (.frzFld c o f) ss) :=
  PSs.imp h fun Z σ H ⟨g, τ, m, S, q⟩ => by
    have q : AftS X.K cla H g W ((runS G.consts (callN G n) (.frzFld c o f) τ m).andThen fun τ1 m1 => runSs G.consts (callN G n) ss τ1 m1) Z := q
    simp only [runS] at q
    unfold fldOwn at q
    split at q
    · rename_i l fs k hq
      split at hq
      · rename_i l' ht
        split at hq
        · rename_i c' fs' hm
          split at hq
          · rename_i hc
            split at hq
            · rename_i k' hk
              cases hq
              subst hc
              obtain ⟨b, o', hw, S2, hz⟩ := S.freezeFld hm hk
              have E2 : Ext H g H ((g.drop (.fld l f)).freeze b o') := (Ext.refl.drop (fun l' z => by cases z)).freeze hz (.inr ⟨_, hw⟩)
              exact ⟨_, τ, _, S2, AftS.from (show AftS X.K cla H g W (runSs G.consts (callN G n) ss τ (m.set l (.inst c' (setF f (.val k.toD) fs)))) Z from q) E2⟩
            · cases hq
          · cases hq
        · cases hq
      · cases hq
    · exact q.elim
theorem s_never {ss : MSs} {p : List Stmt} {st : Stmt} : SndSs G cla n W X (st :: p) (.cons .never ss) := ⟨fun pins s σ H D I ⟨g, τ, m, S, q⟩ => (show False from q).elim⟩
theorem aug_ok {op : BOp} {o : Operator} {x y z : D} (ho : opB op o = true) (h : augEv op x y = some z) : (∃ i j, x = .int i ∧ y = .int j ∧ z = .int (i + j) ∧ o = .Add) ∨ (∃ i j, x = .int i ∧ y = .int j ∧ z = .int (i - j) ∧ o = .Sub) := by
  unfold augEv at h
  split at h
  · cases h
    cases o <;> first | exact absurd ho (by decide) | skip
    exact .inl ⟨_, _, rfl, rfl, rfl, rfl⟩
  · cases h
    cases o <;> first | exact absurd ho (by decide) | skip
    exact .inr ⟨_, _, rfl, rfl, rfl, rfl⟩
  · cases h
theorem aug_op {op : BOp} {o : Operator} (ho : opB op o = true) (h : augB op = true) : ∃ f : Int → Int → Int, PIp X o (ipI f) ∧ InOp X o (ipI f) ∧ ∀ x y z, augEv op x y = some z → ∃ i j, x = .int i ∧ y = .int j ∧ z = .int (f i j) := by
  cases op <;> first | exact absurd h (by decide) | skip
  · cases o <;> first | exact absurd ho (by decide) | skip
    refine ⟨fun i j => i + j, ip_add, ip_add, fun x y z h => ?_⟩
    unfold augEv at h
    split at h <;> first | (cases h; exact ⟨_, _, rfl, rfl, rfl⟩) | (rename_i hh; cases hh; done) | cases h
  · cases o <;> first | exact absurd ho (by decide) | skip
    refine ⟨fun i j => i - j, ip_sub, ip_sub, fun x y z h => ?_⟩
    unfold augEv at h
    split at h <;> first | (cases h; exact ⟨_, _, rfl, rfl, rfl⟩) | (rename_i hh; cases hh; done) | cases h
theorem s_aug {i : Nat} {op : BOp} {o : Operator} {e : ME} {x : Expr} {y : Str} {p py : Pos} (C : Ctx G cla n W FN N sc sc X) (hi : N[i]? = some y) (hy : locB sc y = true) (ho : opB op o = true) (h : augB op = true) (he : Snd G cla n W X x e) :
    SndS G cla n W X (.AugAssign (.Name y py) o x p) (.aug i op e) := by
  obtain ⟨h1, h2⟩ := C.tgt y hy
  obtain ⟨f, hf, _, hv⟩ := aug_op (X := X) ho h
  refine PS.imp (ps_aug (by rw [C.names]; exact C.nd) (by rw [C.names]; exact hi) h1 he.v hf h2) fun Z σ H ⟨g, τ, m, S, q⟩ => ?_
  obtain ⟨xd, e1, q1⟩ := AftS.optS q
  obtain ⟨u, e2, ru⟩ := S.slot i _ (slotVal_eq e1)
  refine ⟨u, e2, g, τ, m, S, AftS.bind q1 fun yd m1 v H1 g1 _ E1 S1 rv q2 => ?_⟩
  obtain ⟨z, e3, q3⟩ := AftS.optS q2
  obtain ⟨a, b, rfl, rfl, rfl⟩ := hv _ _ _ e3
  cases (show VR X.K g u (.int a) from ru)
  cases (show VR X.K g1 v (.int b) from rv)
  exact ⟨a, b, rfl, rfl, q3 _ H1 _ (E1.drop (fun l z => by cases z)) (S1.setVal (VR.int _))⟩
theorem s_augFld {c f : String} {o : Nat} {op : BOp} {o2 : Operator} {e : ME} {x : Expr} {y z : Str} {p py pz : Pos} (C : Ctx G cla n W FN N sc sc X) (hF : FN.fa c f = true) (hy : slotB N sc o y = true) (hz : Str.ofString f = z) (ho : opB op o2 = true) (h : augB op = true) (he : Snd G cla n W X x e) :
    SndS G cla n W X (.AugAssign (.Attribute (.Name y py) z pz) o2 x p) (.augFld c o f op e) := by
  subst hz
  obtain ⟨hc, hn⟩ := C.fa c f hF
  obtain ⟨fo, _, hf, hv⟩ := aug_op (X := X) ho h
  refine PS.imp (ps_fldaug (snd_var C hy) he.v hf) fun Z σ H ⟨g, τ, m, S, q⟩ => ?_
  obtain ⟨xd, e1, q1⟩ := AftS.optS q
  obtain ⟨d, e2, q2⟩ := AftS.optS q1
  obtain ⟨u, e3, ru⟩ := S.slot o _ (slotVal_eq e1)
  obtain ⟨l, fs, hx, hm, hl⟩ := fldEv_eq e2
  obtain ⟨a, dx, fv, rfl, ha, hH, hFs, nd, hlen⟩ := inst_at S ru hx hm
  obtain ⟨w, hw, hs⟩ := hFs.get hl
  refine ⟨.ref a, e3, a, cla c, dx, fv, w, rfl, hH, hc, hn, hw, g, τ, m, S, AftS.bind q2 fun yd m1 v H1 g1 _ E1 S1 rv q3 => ?_⟩
  obtain ⟨z, e4, q4⟩ := AftS.optS q3
  obtain ⟨m4, e5, q5⟩ := AftS.optS q4
  obtain ⟨i, j, rfl, rfl, rfl⟩ := hv _ _ _ e4
  cases (show VR X.K g w (.int i) from hs)
  cases (show VR X.K g1 v (.int j) from rv)
  have ru1 : VR X.K g1 (.ref a) xd := VR.mono E1.le ru
  obtain ⟨a', C', dx', fs', ea, hH', _, _, hlen', hnx⟩ := put_field (v := .int (fo i j)) (r := .val (.int (fo i j))) S1 E1 ru1 (VR.int _) e5 hn hc q5
  cases ea
  have eC : C' = cla c := by
    obtain ⟨l2, fs2, hx2, hm2, _, _⟩ := fldPut_eq e5
    obtain ⟨b, dx2, fv2, eb, _, hH2, _⟩ := inst_at S1 ru1 hx2 hm2
    cases eb
    rw [hH2] at hH'
    cases hH'
    rfl
  subst eC
  exact ⟨i, j, rfl, rfl, dx', fs', hH', hlen', hnx⟩
theorem PIp.or {op : Operator} {t t' : TIp} (h : PIp X op t) (h' : PIp X op t') : PIp X op (fun x y H Q => t x y H Q ∨ t' x y H Q) := fun pins s σ H x y v u Q I rx ry q => q.elim (h pins s σ H x y v u Q I rx ry) (h' pins s σ H x y v u Q I rx ry)
end
end P3
set_option Elab.async false
set_option linter.all false
set_option maxRecDepth 100000
set_option maxHeartbeats 0
/-! P3P: loops, pairs of names; every statement -/
namespace P3
open PySem L2
def Tgt.slots : Tgt → List Nat
  | .name i => [i]
  | .tup is => is
section
variable {G : GE} {cla : String → Addr} {n : Nat} {W : WX} {FN : Tb} {N : List Str} {sc : Scope} {X : Cx}
theorem s_for {tg : Tgt} {it : MI} {body : MSs} {t x : Expr} {pb : List Stmt} {p : Pos} (C : Ctx G cla n W FN N sc sc X) (ht : tgB N sc tg t = true) (hx : plainX x = true) (hi : PI X t x (tI X.K cla W (EvI G n it))) (hb : SndSs G cla n W X pb body) : SndS G cla n W X (.For t x pb [] p) (.for_ tg it body) := by
  refine PS.imp (ps_for C.own C.calm hi (pg_tgt C ht) hb (fun v => fold_of hx v)) fun Z σ H ⟨g, τ, m, S, q⟩ => ?_
  refine ⟨g, τ, m, S, AftS.bind q fun xs m1 J H1 g1 _ E1 S1 Y q1 => ?_⟩
  have q1 := AftS.from q1 E1
  have Y : Yld X.K cla J g1 xs := Y
  let P : Nat → St → Hp → Prop := fun i σ H => ∃ gi τi mi, Ext H1 g1 H gi ∧ SR X.K cla H gi σ τi mi ∧ AftS X.K cla H gi W (forEv (tgEv tg) (fun τ m => runSs G.consts (callN G n) body τ m) (xs.drop i) τi mi) Z
  refine ⟨fun i k σ H => k = xs.length - i ∧ i ≤ xs.length ∧ P i σ H, ⟨xs.length, by simp, Nat.zero_le _, g1, τ, m1, .refl, S1, by rw [List.drop_zero]; exact q1⟩, ?_⟩
  rintro i k σ2 H2 ⟨rfl, hi2, g2, τ2, m2, E2, S2, hl⟩
  cases hd : xs.drop i with
  | nil =>
    have hlen : xs.length ≤ i := by
      by_cases z : i < xs.length
      · rw [List.drop_eq_getElem_cons z] at hd; cases hd
      · omega
    rw [hd] at hl
    exact .inl ⟨(Y i H2 g2 _ _ m2 E2.le S2).2 hlen, hl σ2 H2 g2 .refl S2⟩
  | cons a r =>
    obtain ⟨hx, hr, hlt⟩ := all_tail hd
    obtain ⟨go, yl⟩ := (Y i H2 g2 _ _ m2 E2.le S2).1 a hx
    refine .inr ⟨go, P (i + 1), fun σ' H' p' => ⟨xs.length - (i + 1), by omega, rfl, hlt, p'⟩, fun xv H3 y => ?_⟩
    obtain ⟨g3, E3, S3, rx⟩ := yl xv H3 y
    rw [hd] at hl
    unfold forEv at hl
    cases ha : tgEv tg a τ2 with
    | none => rw [ha] at hl; exact hl.elim
    | some τ' =>
      rw [ha] at hl
      simp only at hl
      have hall : tg.within tg.slots = true := by cases tg <;> simp [Tgt.within, Tgt.slots]
      refine tgt_ok (own := tg.slots) (σ0 := σ2) (τ0 := τ2) (H0 := H3) (g0 := g3) ha S3 rx .refl .refl hall fun σ4 g4 E4 S4 b4 => ?_
      refine ⟨g4, τ', m2, S4, ?_⟩
      have E24 := E3.trans E4
      have hl4 := AftS.from hl E24
      show AftS X.K cla H3 g4 W (runSs G.consts (callN G n) body τ' m2) _
      cases hb2 : runSs G.consts (callN G n) body τ' m2 with
      | stuck => rw [hb2] at hl4; exact hl4
      | nx τ5 m5 =>
        rw [hb2] at hl4
        exact fun σ5 H5 g5 E5 S5 => ⟨g5, τ5, m5, (E2.trans E24).trans E5, S5, by rw [hr]; exact AftS.from hl4 E5⟩
      | ct τ5 m5 =>
        rw [hb2] at hl4
        exact fun σ5 H5 g5 E5 S5 => ⟨g5, τ5, m5, (E2.trans E24).trans E5, S5, by rw [hr]; exact AftS.from hl4 E5⟩
      | bk τ5 m5 => rw [hb2] at hl4; exact hl4
      | ret r m5 => rw [hb2] at hl4; exact hl4
      | exc e τ5 m5 => rw [hb2] at hl4; exact hl4
theorem s_while {c : ME} {body : MSs} {x : Expr} {pb : List Stmt} {p : Pos} (C : Ctx G cla n W FN N sc sc X) (hc : Snd G cla n W X x c) (hb : SndSs G cla n W X pb body) : SndS G cla n W X (.While x pb [] p) (.whil c body) := by
  refine PS.imp (ps_while C.own hc.pt hb) fun Z σ H ⟨g, τ, m, S, q⟩ => ?_
  have q : AftS X.K cla H g W (whileEv (fun τ m => evalB G.consts (callN G n) c τ m) (fun τ m => runSs G.consts (callN G n) body τ m) τ m) Z := q
  unfold whileEv at q
  split at q
  · rename_i h
    generalize Classical.choose h = k at q
    refine ⟨fun k σ H => ∃ g τ m, SR X.K cla H g σ τ m ∧ AftS X.K cla H g W (whileN (fun τ m => evalB G.consts (callN G n) c τ m) (fun τ m => runSs G.consts (callN G n) body τ m) k τ m) Z, ⟨k, g, τ, m, S, q⟩, ?_⟩
    clear q S h
    rintro k σ H ⟨g, τ, m, S, q⟩
    cases k with
    | zero => exact q.elim
    | succ k =>
      unfold whileN at q
      refine ⟨g, τ, m, S, ?_⟩
      cases hcE : evalB G.consts (callN G n) c τ m with
      | stuck => rw [hcE] at q; exact q
      | exc e m1 => rw [hcE] at q; exact fun c d H1 g1 E S rr => q c d σ H1 g1 E S rr
      | ok b m1 =>
        rw [hcE] at q
        intro b' H1 g1 E1 S1 eb
        have eb : b' = b := eb
        subst eb
        cases b' with
        | false => exact q σ H1 g1 E1 S1
        | true =>
          simp only [if_true]
          have q := AftS.from q E1
          refine ⟨fun σ' H' => ∃ g τ m, SR X.K cla H' g σ' τ m ∧ AftS X.K cla H' g W (whileN (fun τ m => evalB G.consts (callN G n) c τ m) (fun τ m => runSs G.consts (callN G n) body τ m) k τ m) Z, fun σ' H' z => ⟨k, Nat.lt_succ_self k, z⟩, g1, τ, m1, S1, ?_⟩
          simp only at q
          show AftS X.K cla H1 g1 W (runSs G.consts (callN G n) body τ m1) _
          cases hb2 : runSs G.consts (callN G n) body τ m1 with
          | stuck => rw [hb2] at q; exact q
          | nx τ5 m5 => rw [hb2] at q; exact fun σ5 H5 g5 E5 S5 => ⟨g5, τ5, m5, S5, AftS.from q E5⟩
          | ct τ5 m5 => rw [hb2] at q; exact fun σ5 H5 g5 E5 S5 => ⟨g5, τ5, m5, S5, AftS.from q E5⟩
          | bk τ5 m5 => rw [hb2] at q; exact q
          | ret r m5 => rw [hb2] at q; exact q
          | exc e τ5 m5 => rw [hb2] at q; exact q
  · exact q.elim
theorem lcl {x : Str} (C : Ctx G cla n W FN N sc sc X) (h : loclB sc x = true) : X.env.scope.names.lookup x = some .local := by
  rw [C.scope]
  unfold loclB at h
  split at h
  · rename_i e; exact e
  · cases h
theorem s_setLc {i : Nat} {y : Str} {py : Pos} {a : ME} {tg : Tgt} {it : MI} {cond : MEs} {own : List (String × Nat)} {elt t iter : Expr} {ifs : List Expr} {scope : Scope} {pos spos : Pos} (C : Ctx G cla n W FN N sc sc X) (hi : N[i]? = some y) (hy : loclB sc y = true)
    (hl : (py.line == pos.line) = true) (ha : (scope.names.any fun (n, k) => n == y && (k == .local || k == .cell)) = false)
    (hit : PI X t iter (tI X.K cla W (EvI G n it))) (hw : tg.within (own.map (·.2)) = true) (hb : L2.blkC N sc scope (own.map fun p => (Str.ofString p.1, p.2)) = true) (ht : tgB N scope tg t = true) (hp : plainX iter = true)
    (hc : ∀ X', Ctx G cla n WF FN N (relS scope sc) scope X' → X'.K = X.K → PTs X' ifs (tT X'.K cla WF (evalT G.consts (callN G n) cond)))
    (he : ∀ X', Ctx G cla n WF FN N (relS scope sc) scope X' → X'.K = X.K → Snd G cla n WF X' elt a) :
    SndS G cla n W X (.Assign [.Name y py] (.ListComp elt [⟨t, iter, ifs, 0⟩] scope pos) spos) (.set i (.lc a tg it cond own)) := by
  refine ⟨fun pins s σ H Z I h => ?_⟩
  have hN : X.N = N := C.names
  have hs : X.env.scope = sc := C.scope
  have e : (own.map fun p => ((Str.ofString p.1, p.2) : Str × Nat)).map (·.2) = own.map (·.2) := by rw [List.map_map]; rfl
  refine (ps_setLc (g := tGt X.K tg) (own := own.map fun p => (Str.ofString p.1, p.2)) C.calm (by rw [hN]; exact C.nd) (by rw [hN]; exact hi) (lcl C hy) (sw_true I.ok.kind (lcl C hy) hl ha) hit (blkOk_by (by rw [hN, hs]; exact hb))
    (fun s H a cl fp => pg_tgt (C.blk s H scope cl a fp) ht)
    (tt := tT X.K cla WF (evalT G.consts (callN G n) cond)) (te := tV X.K cla WF (fun τ m => toV (EvE G n a τ m))) (fun s H a cl fp => hc _ (C.blk s H scope cl a fp) rfl) (fun s H b cl fp => (he _ (C.blk s H scope cl b fp) rfl).v) (fun x => fold_of hp x)).run pins s σ H Z I ?_
  obtain ⟨g, τ, m, S, q⟩ := h
  refine lc_read (own := own) (e := a) (it := it) (cond := cond) (W := W) (cla := cla) (vs := (own.map fun p => ((Str.ofString p.1, p.2) : Str × Nat)).map (·.2)) e (by rw [e]; exact hw) (fun _ _ _ h => h) (fun _ _ _ h => h) (fun _ _ _ h => h) ?_
  refine ⟨g, τ, m, S, AftS.bind q fun r m1 v H1 g1 _ E1 S1 rr q1 => ?_⟩
  obtain ⟨g2, E2, S2⟩ := S1.setRv (i := i) rr E1
  exact q1 _ H1 g2 E2 S2
theorem vrs2 {K : PySem.W.Frag} {g : Gh} {vs : List V} {a b : D} (h : VRs K g vs [a, b]) : ∃ u v, vs = [u, v] ∧ VR K g u a ∧ VR K g v b := by
  cases h with
  | cons r t =>
    cases t with
    | cons r' t' =>
      cases t'
      exact ⟨_, _, rfl, r, r'⟩
theorem vrs3 {K : PySem.W.Frag} {g : Gh} {vs : List V} {a b c : D} (h : VRs K g vs [a, b, c]) : ∃ u v w, vs = [u, v, w] ∧ VR K g u a ∧ VR K g v b ∧ VR K g w c := by
  cases h with
  | cons r t =>
    obtain ⟨v, w, rfl, h1, h2⟩ := vrs2 t
    exact ⟨_, _, _, rfl, r, h1, h2⟩
theorem set2_of {i j : Nat} {ds : List D} {τ τ' : Tau} (h : setNames [i, j] ds τ = some τ') : ∃ a b, ds = [a, b] ∧ τ' = (τ.set i (some (.val a))).set j (some (.val b)) := by
  match ds, h with
  | [a, b], h => cases h; exact ⟨a, b, rfl, rfl⟩
  | [], h => cases h
  | [_], h => cases h
  | _ :: _ :: _ :: _, h => cases h
theorem set3_of {i j k : Nat} {ds : List D} {τ τ' : Tau} (h : setNames [i, j, k] ds τ = some τ') : ∃ a b c, ds = [a, b, c] ∧ τ' = ((τ.set i (some (.val a))).set j (some (.val b))).set k (some (.val c)) := by
  match ds, h with
  | [a, b, c], h => cases h; exact ⟨a, b, c, rfl, rfl⟩
  | [], h => cases h
  | [_], h => cases h
  | [_, _], h => cases h
  | _ :: _ :: _ :: _ :: _, h => cases h
theorem s_par {is : List Nat} {es : MEs} {ts vs : List Expr} {k k2 : Nat} {p pt pv : Pos} (C : Ctx G cla n W FN N sc sc X) (hp : parB N sc is ts vs = true) (hv : PA X vs (tVs X.K cla W (EvEs G n es))) : SndS G cla n W X (.Assign [.Tuple ts k pt] (.Tuple vs k2 pv) p) (.par is es) := by
  unfold parB at hp
  split at hp
  · rename_i i j x px y py u v
    simp only [Bool.and_eq_true, decide_eq_true_eq, Bool.not_eq_true', beq_eq_false_iff_ne] at hp
    obtain ⟨⟨⟨⟨⟨⟨⟨⟨⟨⟨h1, h2⟩, h3⟩, h4⟩, h5⟩, h6⟩, h7⟩, h8⟩, h9⟩, h10⟩, h11⟩ := hp
    refine ⟨fun pins s σ H Z I h => ?_⟩
    have hk : X.env.blockKind = .function := by unfold Env.blockKind; rw [I.ok.kind]; rfl
    have hx := lcl C h3
    have hy := lcl C h4
    have kx : X.env.kindOf x = some .local := hx
    have ky : X.env.kindOf y = some .local := hy
    have hst : ([u, v] : List Expr).any (fun | .Starred .. => true | _ => false) = false := by
      have a1 : ∀ {e : Expr}, plainX e = true → (match e with | .Starred .. => true | _ => false) = false := fun {e} h => by cases e <;> first | rfl | cases h
      simp only [List.any_cons, List.any_nil, a1 h10, a1 h11, Bool.or_false]
    have hsw : swappedStores [.Tuple [.Name x px, .Name y py] k pt] (.Tuple [u, v] k2 pv) X.env = pure (some [x, y]) := by
      unfold swappedStores
      have e2 : ([x, y] : List Str).eraseDups.length = 2 := by
        have : (y == x) = false := beq_eq_false_iff_ne.mpr (Ne.symm h5)
        simp [List.eraseDups, List.eraseDupsBy, List.eraseDupsBy.loop, this]
      have h8' : ¬ (([u, v].all (foldedForSure 8)) = true) := by rw [h8]; decide
      simp only [List.head?_cons, Option.map_some, Option.getD_some, Expr.pos, List.filterMap_cons, List.filterMap_nil, kx, ky, h7, beq_self_eq_true, Bool.and_self, if_true, e2, h8, h9, hk]
      refine (if_neg (by simp)).trans ?_
      refine (if_neg (fun z => Bool.noConfusion (hst.symm.trans z))).trans ?_
      rfl
    refine (ps_par C.calm (by rw [C.names]; exact C.nd) (by rw [C.names]; exact h1) (by rw [C.names]; exact h2) h6 hx hy hv hsw).run pins s σ H Z I ?_
    obtain ⟨g, τ, m, S, q⟩ := h
    refine ⟨g, τ, m, S, AftS.bind q fun ds m1 vs H1 g1 _ E1 S1 rr q1 => ?_⟩
    obtain ⟨τ', e3, q2⟩ := AftS.opt (f := fun τ' => .nx τ' m1) q1
    obtain ⟨a, b, rfl, rfl⟩ := set2_of e3
    obtain ⟨v1, v2, rfl, r1, r2⟩ := vrs2 rr
    have le1 : g1.le (g1.drop (.slot i)) := Gh.drop_le (fun l z => by cases z)
    exact ⟨_, _, rfl, q2 _ H1 _ ((E1.drop (fun l z => by cases z)).drop (fun l z => by cases z)) ((S1.setVal r1).setVal (VR.mono le1 r2))⟩
  · rename_i i j l x px y py z pz u v w
    simp only [Bool.and_eq_true, decide_eq_true_eq, Bool.not_eq_true', beq_eq_false_iff_ne] at hp
    obtain ⟨⟨⟨⟨⟨⟨⟨⟨⟨⟨⟨⟨⟨⟨⟨⟨⟨⟨h1, h2⟩, h3⟩, h4⟩, h5⟩, h6⟩, h7⟩, h8⟩, h9⟩, h10⟩, h11⟩, h12⟩, h13⟩, h14⟩, h15⟩, h16⟩, h17⟩, h18⟩, h19⟩ := hp
    refine ⟨fun pins s σ H Z I h => ?_⟩
    have hk : X.env.blockKind = .function := by unfold Env.blockKind; rw [I.ok.kind]; rfl
    have hx := lcl C h4
    have hy := lcl C h5
    have hz := lcl C h6
    have kx : X.env.kindOf x = some .local := hx
    have ky : X.env.kindOf y = some .local := hy
    have kz : X.env.kindOf z = some .local := hz
    have hst : ([u, v, w] : List Expr).any (fun | .Starred .. => true | _ => false) = false := by
      have a1 : ∀ {e : Expr}, plainX e = true → (match e with | .Starred .. => true | _ => false) = false := fun {e} h => by cases e <;> first | rfl | cases h
      simp only [List.any_cons, List.any_nil, a1 h17, a1 h18, a1 h19, Bool.or_false]
    have hsw : swappedStores [.Tuple [.Name x px, .Name y py, .Name z pz] k pt] (.Tuple [u, v, w] k2 pv) X.env = pure (some [x, y, z]) := by
      unfold swappedStores
      have e2 : ([x, y, z] : List Str).eraseDups.length = 3 := by
        have a1 : (y == x) = false := beq_eq_false_iff_ne.mpr (Ne.symm h7)
        have a2 : (z == x) = false := beq_eq_false_iff_ne.mpr (Ne.symm h8)
        have a3 : (z == y) = false := beq_eq_false_iff_ne.mpr (Ne.symm h9)
        simp [List.eraseDups, List.eraseDupsBy, List.eraseDupsBy.loop, a1, a2, a3]
      simp only [List.head?_cons, Option.map_some, Option.getD_some, Expr.pos, List.filterMap_cons, List.filterMap_nil, kx, ky, kz, h13, h14, beq_self_eq_true, Bool.and_self, if_true, e2, h15, h16, hk]
      refine (if_neg (by simp)).trans ?_
      refine (if_neg (fun z => Bool.noConfusion (hst.symm.trans z))).trans ?_
      rfl
    refine (ps_par3 C.calm (by rw [C.names]; exact C.nd) (by rw [C.names]; exact h1) (by rw [C.names]; exact h2) (by rw [C.names]; exact h3) h10 h11 h12 hx hy hz hv hsw).run pins s σ H Z I ?_
    obtain ⟨g, τ, m, S, q⟩ := h
    refine ⟨g, τ, m, S, AftS.bind q fun ds m1 vs H1 g1 _ E1 S1 rr q1 => ?_⟩
    obtain ⟨τ', e3, q2⟩ := AftS.opt (f := fun τ' => .nx τ' m1) q1
    obtain ⟨a, b, c, rfl, rfl⟩ := set3_of e3
    obtain ⟨v1, v2, v3, rfl, r1, r2, r3⟩ := vrs3 rr
    have le1 : g1.le (g1.drop (.slot i)) := Gh.drop_le (fun l z => by cases z)
    have le2 : (g1.drop (.slot i)).le ((g1.drop (.slot i)).drop (.slot j)) := Gh.drop_le (fun l z => by cases z)
    exact ⟨_, _, _, rfl, q2 _ H1 _ (((E1.drop (fun l z => by cases z)).drop (fun l z => by cases z)).drop (fun l z => by cases z)) (((S1.setVal r1).setVal (VR.mono le1 r2)).setVal (VR.mono (le1.trans le2) r3))⟩
  · cases hp
theorem s_freeze {i : Nat} {ss : MSs} {p : List Stmt} (h : SndSs G cla n W X p ss) : SndSs G cla n W X p (.cons (.freeze i) ss) :=
  PSs.imp h fun Z σ H ⟨g, τ, m, S, q⟩ => by
    have q : AftS X.K cla H g W ((runS G.consts (callN G n) (.freeze i) τ m).andThen fun τ1 m1 => runSs G.consts (callN G n) ss τ1 m1) Z := q
    simp only [runS] at q
    cases ht : τ[i]? with
    | none => rw [ht] at q; exact q.elim
    | some o =>
      cases o with
      | none => rw [ht] at q; exact q.elim
      | some s =>
        rw [ht] at q
        cases s with
        | val d => exact ⟨g, τ, m, S, q⟩
        | own c =>
          obtain ⟨g', E, S'⟩ := S.freezeSlot ht
          exact ⟨g', _, m, S', AftS.from (show AftS X.K cla H g W (runSs G.consts (callN G n) ss (τ.set i (some (.val c.toD))) m) Z from q) E⟩
theorem s_nil : SndSs G cla n W X [] .nil := PSs.imp pss_nil fun Z σ H ⟨g, τ, m, S, q⟩ => q σ H g .refl S
theorem s_cons {s : MS} {ss : MSs} {st : Stmt} {p : List Stmt} (h : SndS G cla n W X st s) (hs : SndSs G cla n W X p ss) : SndSs G cla n W X (st :: p) (.cons s ss) :=
  PSs.imp (pss_cons h hs) fun Z σ H ⟨g, τ, m, S, q⟩ => by
    have q : AftS X.K cla H g W ((RunS G n s τ m).andThen fun τ1 m1 => RunSs G n ss τ1 m1) Z := q
    exact ⟨g, τ, m, S, AftS.seq q (fun τ m σ H1 g1 S1 h1 => ⟨g1, τ, m, S1, h1⟩) rfl rfl rfl⟩
theorem if_some {α : Type} {c : Prop} [Decidable c] {r r' : α} (h : (if c then some r else none) = some r') : c ∧ r = r' := by
  by_cases hc : c
  · rw [if_pos hc] at h; exact ⟨hc, Option.some.inj h⟩
  · rw [if_neg hc] at h; cases h
theorem sw_cell {e : Expr} {y : Str} {py : Pos} {l : Nat} {env : Env} (h : env.scope.names.lookup y = some .cell) : swapsWith e (some (.Name y py)) l env = pure false := by
  have k : env.kindOf y = some .cell := h
  have k2 : (env.kindOf y == some .local) = false := by rw [k]; rfl
  cases e <;> first
    | rfl
    | (unfold swapsWith
       simp only [k2, Bool.and_false, Bool.false_and]
       done)
    | (unfold swapsWith
       simp only [k2, Bool.and_false, Bool.false_and]
       rfl)
theorem s_setC {i : Nat} {y : Str} {e : ME} {x : Expr} {p py : Pos} (C : Ctx G cla n W FN N sc sc X) (hi : N[i]? = some y) (hc : celB sc y = true) (he : Snd G cla n W X x e) : SndS G cla n W X (.Assign [.Name y py] x p) (.set i e) := by
  have hk : sc.names.lookup y = some .cell := by
    unfold celB at hc
    split at hc
    · assumption
    · cases hc
  have hy : locB sc y = true := by unfold locB; rw [hk]
  obtain ⟨h1, h2⟩ := C.tgt y hy
  refine PS.imp (ps_set (by rw [C.names]; exact C.nd) (by rw [C.names]; exact hi) h1 he.pe (sw_cell (by rw [C.scope]; exact hk)) h2) fun Z σ H ⟨g, τ, m, S, q⟩ => ?_
  refine ⟨g, τ, m, S, AftS.bind q fun r m1 v H1 g1 _ E1 S1 rr q1 => ?_⟩
  obtain ⟨g2, E2, S2⟩ := S1.setRv (i := i) rr E1
  exact q1 _ H1 g2 E2 S2
theorem s_setB {i : Nat} {y : Str} {e : ME} {x : Expr} {p py : Pos} (C : Ctx G cla n W FN N sc sc X) (hm : mtE FN N sc e x = true) (hi : N[i]? = some y) (h : setB sc y py x = true) : SndS G cla n W X (.Assign [.Name y py] x p) (.set i e) := by
  unfold setB at h
  split at h
  · rename_i elt cs scope pos
    rw [Bool.or_eq_true] at h
    rcases h with h | h
    · exact s_setC C hi h (sndE e C hm)
    simp only [Bool.and_eq_true, Bool.not_eq_true'] at h
    obtain ⟨⟨h1, h2⟩, h3⟩ := h
    by_cases he : ∃ a tg it cond own, e = .lc a tg it cond own
    · obtain ⟨a, tg, it, cond, own, rfl⟩ := he
      obtain ⟨y', t, i', ifs, scope', pos', e1, k1, k2, k3, k4, k5, k6, k7⟩ := iv_lc hm
      cases e1
      exact s_setLc C hi h1 h2 h3 (sndI it C k1) k2 k3 k4 k7 (fun X' C' hK => sndC cond C' k5) (fun X' C' hK => sndE a C' k6)
    · exfalso
      revert hm
      cases e <;> first | (intro hm; simp [mtE] at hm; done) | (intro hm; simp [mtE, isComp] at hm; done) | exact absurd ⟨_, _, _, _, _, rfl⟩ he | skip
      intro hm
      have := (iv_alloc hm).1
      cases this
  · simp only [Bool.and_eq_true, Bool.not_eq_true'] at h
    exact s_set C hi h.1 h.2 (sndE e C hm)
mutual
theorem sndSs : ∀ (ss : MSs) {p : List Stmt}, Ctx G cla n W FN N sc sc X → mtSs FN N sc ss p = true → SndSs G cla n W X p ss
  | .nil, p, C, h => by
    cases p with
    | nil => exact s_nil
    | cons _ _ => simp [mtSs] at h
  | .cons s ss, p, C, h => by
    unfold mtSs at h
    cases hm : mtS FN N sc s p with
    | none => rw [hm] at h; cases h
    | some r =>
      rw [hm] at h
      exact sndS s C hm (sndSs ss C h)
theorem sndS : ∀ (s : MS) {ss : MSs} {p r : List Stmt}, Ctx G cla n W FN N sc sc X → mtS FN N sc s p = some r → SndSs G cla n W X r ss → SndSs G cla n W X p (.cons s ss)
  | .freeze i, ss, p, r, C, h, hr => by
    simp only [mtS, Option.some.injEq] at h
    subst h
    exact s_freeze hr
  | .frzFld c o f, ss, p, r, C, h, hr => by
    simp only [mtS] at h
    obtain ⟨_, rfl⟩ := if_some h
    exact s_frzFld hr
  | .never, ss, p, r, C, h, hr => by
    unfold mtS at h
    split at h
    · exact s_never
    · cases h
  | .setFld c o f e, ss, p, r, C, h, hr => by
    unfold mtS at h
    split at h
    · have h2 := if_some h
      clear h
      obtain ⟨h, rfl⟩ := h2
      try simp only [Bool.and_eq_true, decide_eq_true_eq, Bool.not_eq_true'] at h
      obtain ⟨⟨⟨⟨h1, h2⟩, h3⟩, h4⟩, h5⟩ := h
      exact s_cons (s_setFld C h3 h2 h4 h5 (sndE e C h1)) hr
    · cases h
  | .aug i op e, ss, p, r, C, h, hr => by
    unfold mtS at h
    split at h
    · have h2 := if_some h
      clear h
      obtain ⟨h, rfl⟩ := h2
      rw [Bool.and_eq_true] at h
      obtain ⟨h, h7⟩ := h
      simp only [Bool.and_eq_true, decide_eq_true_eq] at h
      obtain ⟨⟨⟨⟨⟨h1, h2⟩, h3⟩, h4⟩, h5⟩, h6⟩ := h
      exact s_cons (s_aug C h2 h3 h6 h7 (sndE e C h1)) hr
    · cases h
  | .augFld c o f op e, ss, p, r, C, h, hr => by
    unfold mtS at h
    split at h
    · have h2 := if_some h
      clear h
      obtain ⟨h, rfl⟩ := h2
      rw [Bool.and_eq_true] at h
      obtain ⟨h, h6⟩ := h
      simp only [Bool.and_eq_true, decide_eq_true_eq] at h
      obtain ⟨⟨⟨⟨h1, h2⟩, h3⟩, h4⟩, h5⟩ := h
      exact s_cons (s_augFld C h2 h3 h4 h5 h6 (sndE e C h1)) hr
    · cases h
  | .pass, ss, p, r, C, h, hr => by
    unfold mtS at h
    split at h
    · cases h; exact s_cons s_pass hr
    · cases h
  | .cont, ss, p, r, C, h, hr => by
    unfold mtS at h
    split at h
    · cases h; exact s_cons s_cont hr
    · cases h
  | .brk, ss, p, r, C, h, hr => by
    unfold mtS at h
    split at h
    · cases h; exact s_cons s_brk hr
    · cases h
  | .retN, ss, p, r, C, h, hr => by
    unfold mtS at h
    split at h
    · cases h; exact s_cons s_retN hr
    · cases h
  | .expr e, ss, p, r, C, h, hr => by
    unfold mtS at h
    split at h
    · have h2 := if_some h
      clear h
      obtain ⟨h, rfl⟩ := h2
      try simp only [Bool.and_eq_true, Bool.not_eq_true'] at h
      exact s_cons (s_expr (sndE e C h.1) h.2) hr
    · cases h
  | .ret e, ss, p, r, C, h, hr => by
    unfold mtS at h
    split at h
    · have h2 := if_some h
      clear h
      obtain ⟨h, rfl⟩ := h2
      exact s_cons (s_ret C h (sndE e C h)) hr
    · cases h
  | .set i e, ss, p, r, C, h, hr => by
    unfold mtS at h
    split at h
    · have h2 := if_some h
      clear h
      obtain ⟨h, rfl⟩ := h2
      try simp only [Bool.and_eq_true, decide_eq_true_eq] at h
      obtain ⟨⟨h1, h2⟩, h3⟩ := h
      exact s_cons (s_setB C h1 h2 h3) hr
    · cases h
  | .asg is e, ss, p, r, C, h, hr => by
    unfold mtS at h
    split at h
    · have h2 := if_some h
      clear h
      obtain ⟨h, rfl⟩ := h2
      try simp only [Bool.and_eq_true, Bool.not_eq_true'] at h
      exact s_cons (s_asg C h.1.1.2 h.1.2 h.2 (sndE e C h.1.1.1)) hr
    · cases h
  | .par is es, ss, p, r, C, h, hr => by
    unfold mtS at h
    split at h
    · have h2 := if_some h
      clear h
      obtain ⟨h, rfl⟩ := h2
      try simp only [Bool.and_eq_true] at h
      exact s_cons (s_par C h.2 (sndEs es C h.1)) hr
    · cases h
  | .iff c a b, ss, p, r, C, h, hr => by
    unfold mtS at h
    split at h
    · have h2 := if_some h
      clear h
      obtain ⟨h, rfl⟩ := h2
      try simp only [Bool.and_eq_true] at h
      exact s_cons (s_if (sndE c C h.1.1) (sndSs a C h.1.2) (sndSs b C h.2)) hr
    · cases h
  | .for_ tg it body, ss, p, r, C, h, hr => by
    unfold mtS at h
    split at h
    · have h2 := if_some h
      clear h
      obtain ⟨h, rfl⟩ := h2
      try simp only [Bool.and_eq_true] at h
      exact s_cons (s_for C h.1.1.2 h.1.2 (sndI it C h.1.1.1) (sndSs body C h.2)) hr
    · cases h
  | .whil c body, ss, p, r, C, h, hr => by
    unfold mtS at h
    split at h
    · have h2 := if_some h
      clear h
      obtain ⟨h, rfl⟩ := h2
      try simp only [Bool.and_eq_true] at h
      exact s_cons (s_while C (sndE c C h.1) (sndSs body C h.2)) hr
    · cases h
  | .setIdx a i e, ss, p, r, C, h, hr => by
    unfold mtS at h
    split at h
    · have h2 := if_some h
      clear h
      obtain ⟨h, rfl⟩ := h2
      try simp only [Bool.and_eq_true, Bool.not_eq_true'] at h
      obtain ⟨⟨⟨⟨h1, h2⟩, h3⟩, h4⟩, h5⟩ := h
      exact s_cons (s_setIdx C h2 h5 h4 (sndE a C h2) (sndE i C h3) (sndE e C h1)) hr
    · cases h
  | .append a e, ss, p, r, C, h, hr => by
    unfold mtS at h
    split at h
    · have h2 := if_some h
      clear h
      obtain ⟨h, rfl⟩ := h2
      try simp only [Bool.and_eq_true, decide_eq_true_eq] at h
      obtain ⟨⟨⟨⟨⟨h1, h2⟩, h3⟩, h4⟩, h5⟩, h6⟩ := h
      subst h1
      exact s_cons (s_append C h2 h4 h6 h5 (sndE a C h2) (sndE e C h3)) hr
    · cases h
  | .extend a e, ss, p, r, C, h, hr => by
    unfold mtS at h
    split at h
    · have h2 := if_some h
      clear h
      obtain ⟨h, rfl⟩ := h2
      try simp only [Bool.and_eq_true, decide_eq_true_eq] at h
      obtain ⟨⟨⟨⟨⟨h1, h2⟩, h3⟩, h4⟩, h5⟩, h6⟩ := h
      subst h1
      exact s_cons (s_extend C h2 h4 h6 h5 (sndE a C h2) (sndE e C h3)) hr
    · cases h
end
end
end P3
set_option Elab.async false
set_option linter.all false
set_option maxRecDepth 100000
set_option maxHeartbeats 0
/-! P3Q: functions; the head's facts; a law's end -/
namespace P3
open PySem L2
section
variable {K : PySem.W.Frag} {cla : String → Addr}
/-- the parameters' values, the other names unset -/
def startT (ds : List D) (k : Nat) : Tau := ds.map (fun d => some (.val d)) ++ List.replicate k none
theorem start_SR {H : Hp} {g : Gh} {m : Mem} {vs : List V} {ds : List D} {N : List Str} (S : SH K cla H g m) (r : VRs K g vs ds) : SR K cla H g (L2.start N vs) (startT ds (N.length - ds.length)) m := by
  have hl := r.length
  refine ⟨S, ?_, fun i s e => ?_⟩
  · simp [L2.start, startT, hl]
  · unfold startT at e
    by_cases hi : i < ds.length
    · rw [List.getElem?_append_left (by simpa using hi), List.getElem?_map] at e
      cases e1 : ds[i]? with
      | none => rw [e1] at e; cases e
      | some d =>
        rw [e1] at e
        have e : some (some (Slot.val d)) = some (some s) := e
        cases e
        obtain ⟨v, e2, rv⟩ := r.get e1
        refine ⟨v, ?_, rv⟩
        unfold L2.start
        rw [List.getElem?_append_left (by simpa [hl] using hi), List.getElem?_map, e2]; rfl
    · rw [List.getElem?_append_right (by simpa using hi), List.getElem?_replicate] at e
      split at e <;> cases e
/-- a run of a body -/
def bodyOut : SOut → Out Rv
  | .nx _ m1 => .ok (.val .non) m1
  | .ret r m1 => .ok r m1
  | .exc e _ m1 => .exc e m1
  | _ => .stuck
theorem callN_eq {G : GE} {n : Nat} {f : String} {fn : Fn} {ds : List D} {m : Mem} (hf : G.fns.lookup f = some fn) (hl : ds.length = fn.params) :
    callN G (n + 1) f ds m = bodyOut (runSs G.consts (callN G n) fn.body (startT ds (fn.names.length - ds.length)) m) := by
  simp only [callN, hf]
  rw [if_pos hl, hl]
  show _ = bodyOut (runSs G.consts (callN G n) fn.body (ds.map (fun d => some (.val d)) ++ List.replicate (fn.names.length - fn.params) none) m)
  cases runSs G.consts (callN G n) fn.body (ds.map (fun d => some (.val d)) ++ List.replicate (fn.names.length - fn.params) none) m <;> rfl
theorem ext_slot {H0 H : Hp} {g0 g : Gh} (E : Ext H0 g0 H g) : Ext H0 g0 H g.call := Ext.call E
theorem body_aft {H : Hp} {g : Gh} {o : SOut} {Q : VK} {E : XK} (h : AftC K cla H g (bodyOut o) Q E) : AftS K cla H g (fun c d _ H' => E c d H') o { nx := fun _ H' => Q .non H', rt := Q } := by
  cases o with
  | stuck => exact h
  | ct τ m => exact h.elim
  | bk τ m => exact h.elim
  | nx τ m => exact fun σ H1 g1 E1 S1 => h .non H1 g1.call (Ext.call E1) S1.call (fun _ => rfl) .non
  | ret r m => exact fun v H1 g1 E1 S1 hn rr => h v H1 g1 E1 S1 hn rr
  | exc e τ m => exact fun c d σ H1 g1 E1 S1 rr => h c d H1 g1.call (Ext.call E1) S1.call (fun _ => rfl) (by
      obtain ⟨h1, h2⟩ := rr
      refine ⟨h1, ?_⟩
      cases d with
      | none => exact h2
      | some a =>
        obtain ⟨fv, e1, fr⟩ := h2
        exact ⟨fv, e1, fr.mono (fun _ _ _ => rfl) Gh.call_le fun _ _ z => z⟩)
end
/-- what stands behind the top of one def -/
structure FnS (FN : Tb) (K : PySem.W.Frag) (fn : Fn) (a : Addr) : Prop where
  ok : ∃ (fd : FuncData) (st : Stmt) (x q : Str), FunD K x q (defArgs st) (defBody st) (defScope st) [] [] a fd ∧ Binds K fd ((fn.names.map Str.ofString).take fn.params) [] ∧
    FnScope (fn.names.map Str.ofString) ((fn.names.map Str.ofString).take fn.params) (defScope st) ∧ fn.params ≤ fn.names.length ∧ mtSs FN (fn.names.map Str.ofString) (defScope st) fn.body (defBody st) = true
structure PrG (G : GE) (cla : String → Addr) (K : PySem.W.Frag) (mg : Str → Option Value) (w : World) : Prop where
  fn : ∀ f, G.tb.fn f = true → ∃ fn a, G.fns.lookup f = some fn ∧ mg (Str.ofString f) = some (.ref a) ∧ FnS G.tb K fn a
  fa : ∀ c f, G.tb.fa c f = true → Cls K (cla c) ∧ NoAttr K (cla c) (Str.ofString f)
  fm : ∀ c m f, G.tb.fm c m f = true → ∃ fn a, G.fns.lookup f = some fn ∧ Cls K (cla c) ∧ Meth K (cla c) (Str.ofString m) a ∧ FnS G.tb K fn a
  mkr : ∀ c, G.tb.mkr c = true → ∃ f fn a, G.fns.lookup c = none ∧ G.makes.lookup c = some f ∧ G.fns.lookup f = some fn ∧ mg (Str.ofString c) = some (.ref (cla c)) ∧ Mk K (cla c) a ∧ FnS G.tb K fn a
  con : ∀ x d, G.consts.lookup x = some d → ∃ u v, mg (Str.ofString x) = some u ∧ RelV v u ∧ ∀ g, VR K g v d
  tab : ∀ x, G.tb.tab x = true → ∃ kvs, G.consts.tab x = some kvs ∧ TabOk K w mg x kvs
  free : ∀ b, b ∈ freeNames → mg (Str.ofString b) = none
section
variable {G : GE} {K : PySem.W.Frag} {mg : Str → Option Value} {P : Program} {w : World} {base : Heap} {cla : String → Addr}
theorem fnOk_zero {f : String} {fn : Fn} {a : Addr} {fd : FuncData} {ps : List Str} : FnOk P w K mg base (L2.CX P w) 0 a fd ps (spOf K cla G 0 f fn) := by
  refine ⟨?_, ?_⟩
  · rintro vs H Q E ⟨g, m, ds, _, _, _, _, z⟩
    exact z.elim
  · rintro A outer s H args us vs Q E _ _ _ _ ⟨g, m, ds, _, _, _, _, z⟩
    exact z.elim
theorem fnOk_succ (R : PrG G cla K mg w) {n : Nat} (ih : ∀ k, k ≤ n → ∀ f fn a, G.fns.lookup f = some fn → FnS G.tb K fn a → FnG G cla P w K mg base k f fn a) {f : String} {fn : Fn} (hf : G.fns.lookup f = some fn) {a : Addr} {fd : FuncData} {st : Stmt} {x q : Str}
    (h2 : FunD K x q (defArgs st) (defBody st) (defScope st) [] [] a fd) (h4 : FnScope (fn.names.map Str.ofString) ((fn.names.map Str.ofString).take fn.params) (defScope st)) (h5 : fn.params ≤ fn.names.length)
    (h6 : mtSs G.tb (fn.names.map Str.ofString) (defScope st) fn.body (defBody st) = true) : FnOk P w K mg base (L2.CX P w) (n + 1) a fd ((fn.names.map Str.ofString).take fn.params) (spOf K cla G (n + 1) f fn) := by
  have hps : ((fn.names.map Str.ofString).take fn.params).length = fn.params := by rw [List.length_take, List.length_map]; omega
  refine h2.ok h4 ?_ ?_
  · rintro vs H Q E ⟨g, m, ds, r, _, _, hl, _⟩
    rw [r.length, hl, hps]
  · rintro cdv A outer s H vs Q E hr ⟨g, m, ds, r, S, hn, hl, z⟩
    have C : Ctx G cla n (fun c d _ H' => E c d H') G.tb (fn.names.map Str.ofString) (defScope st) (defScope st) (cxOf (L2.CX P w) P w K mg base (fn.names.map Str.ofString) q (defScope st) a cdv A outer s H E) := {
      calm := rfl
      room := hr
      names := rfl
      scope := rfl
      nd := h4.nd
      pass := fun σ => passAt (takes_of rfl rfl rfl rfl) σ
      own := passes_of rfl
      fn := fun f hf => by
        obtain ⟨fn, a, h1, h2, h3⟩ := R.fn f hf
        obtain ⟨fd, st, x, q, F, _⟩ := h3.ok
        exact ⟨fn, a, h1, h2, F.kp, ih n (Nat.le_refl _) f fn a h1 h3⟩
      fa := R.fa
      fm := fun c m f hf => by
        obtain ⟨fn, a, h1, h2, h3, h4⟩ := R.fm c m f hf
        exact ⟨fn, a, h1, h2, h3, ih n (Nat.le_refl _) f fn a h1 h4⟩
      mkr := fun c hc => by
        obtain ⟨f, fn, a, h0, h1, h2, h3, h4, h5⟩ := R.mkr c hc
        exact ⟨f, fn, a, h0, h1, h2, h3, h4, fun k hk => ih k (by omega) f fn a h2 h5⟩
      con := R.con
      tab := R.tab
      free := R.free
      tgt := fun x hx => by
        refine ⟨?_, .inl rfl⟩
        unfold locB at hx
        split at hx
        · rename_i e; exact .inl e
        · rename_i e; exact .inr e
        · cases hx }
    refine ⟨_, sndSs fn.body C h6, g, startT ds ((fn.names.map Str.ofString).length - ds.length), m, start_SR S r, ?_⟩
    rw [callN_eq hf hl] at z
    rw [List.length_map]
    exact body_aft z
theorem fnG (R : PrG G cla K mg w) : ∀ (n k : Nat), k ≤ n → ∀ f fn a, G.fns.lookup f = some fn → FnS G.tb K fn a → FnG G cla P w K mg base k f fn a
  | n, 0, _, f, fn, a, hf, h => by
    obtain ⟨fd, st, x, q, h2, h3, h4, h5, h6⟩ := h.ok
    exact ⟨fd, _, h3, fnOk_zero⟩
  | 0, k + 1, h0, _, _, _, _, _ => by omega
  | n + 1, k + 1, h0, f, fn, a, hf, h => by
    obtain ⟨fd, st, x, q, h2, h3, h4, h5, h6⟩ := h.ok
    exact ⟨fd, _, h3, fnOk_succ R (fun j hj => fnG R n j (by omega)) hf h2 h4 h5 h6⟩
theorem fnOk_at (R : PrG G cla K mg w) (n : Nat) {f : String} {fn : Fn} (hf : G.fns.lookup f = some fn) {a : Addr} {fd : FuncData} {st : Stmt} {x q : Str}
    (h2 : FunD K x q (defArgs st) (defBody st) (defScope st) [] [] a fd) (h4 : FnScope (fn.names.map Str.ofString) ((fn.names.map Str.ofString).take fn.params) (defScope st)) (h5 : fn.params ≤ fn.names.length)
    (h6 : mtSs G.tb (fn.names.map Str.ofString) (defScope st) fn.body (defBody st) = true) : FnOk P w K mg base (L2.CX P w) n a fd ((fn.names.map Str.ofString).take fn.params) (spOf K cla G n f fn) := by
  cases n with
  | zero => exact fnOk_zero
  | succ n => exact fnOk_succ R (fnG R n) hf h2 h4 h5 h6
end
end P3
set_option Elab.async false
set_option linter.all false
set_option maxRecDepth 100000
set_option maxHeartbeats 0
/-! P3R: the head's facts; a law's end -/
namespace P3
open PySem L2
/-! ### written values of the module -/
mutual
theorem valB_ok {K : PySem.W.Frag} : ∀ (d : D) {u : Value}, valB K u d = true → ∃ v, RelV v u ∧ ∀ g, VR K g v d
  | .non, u, h => by
    cases u <;> first | (simp [valB] at h; done) | exact ⟨.non, rfl, fun g => .non⟩
  | .bl b, u, h => by
    cases u <;> first | (simp [valB] at h; done) | skip
    simp only [valB, beq_iff_eq] at h
    subst h
    exact ⟨.bl _, rfl, fun g => .bl _⟩
  | .int i, u, h => by
    cases u <;> first | (simp [valB] at h; done) | skip
    simp only [valB, decide_eq_true_eq] at h
    subst h
    exact ⟨.int _, ⟨_, rfl⟩, fun g => .int _⟩
  | .str s, u, h => by
    cases u <;> first | (simp [valB] at h; done) | skip
    simp only [valB, decide_eq_true_eq] at h
    subst h
    exact ⟨.str _, ⟨_, rfl⟩, fun g => .str _⟩
  | .tup ds, u, h => by
    cases u <;> first | (simp [valB] at h; done) | skip
    rename_i a
    unfold valB at h
    split at h
    · rename_i o hl
      split at h
      · rename_i c its n hc hd
        simp only [Bool.and_eq_true, decide_eq_true_eq] at h
        obtain ⟨⟨h1, h2⟩, h3⟩ := h
        obtain ⟨vs, r, hv⟩ := valsB_ok ds h3
        refine ⟨.ref a, rfl, fun g => .tup (.inr ⟨o, its, n, hl, ?_, hd, h2, r⟩) (hv g)⟩
        rw [hc, h1]
      · cases h
    · cases h
  | .fl _, u, h => by cases u <;> simp [valB] at h
  | .fd _, u, h => by cases u <;> simp [valB] at h
  | .loc _, u, h => by cases u <;> simp [valB] at h
theorem valsB_ok {K : PySem.W.Frag} : ∀ (ds : List D) {us : List Value}, valsB K us ds = true → ∃ vs, Vals vs us ∧ ∀ g, VRs K g vs ds
  | [], us, h => by
    cases us with
    | nil => exact ⟨[], .nil, fun g => .nil⟩
    | cons _ _ => simp [valsB] at h
  | d :: ds, us, h => by
    cases us with
    | nil => simp [valsB] at h
    | cons u us =>
      simp only [valsB, Bool.and_eq_true] at h
      obtain ⟨v, r, hv⟩ := valB_ok d h.1
      obtain ⟨vs, rs, hvs⟩ := valsB_ok ds h.2
      exact ⟨v :: vs, .cons r rs, fun g => .cons (hv g) (hvs g)⟩
end
theorem lookup_tbl : ∀ {tbl : List DT} {f : String} {fn : Fn}, (tbl.map fun e => (e.f, e.fn)).lookup f = some fn → ∃ e ∈ tbl, e.f = f ∧ e.fn = fn
  | [], _, _, h => by cases h
  | e :: es, f, fn, h => by
    rw [List.map_cons, List.lookup_cons] at h
    split at h
    · rename_i q
      cases h
      exact ⟨e, List.mem_cons_self, (beq_iff_eq.mp q).symm, rfl⟩
    · obtain ⟨e', h1, h2, h3⟩ := lookup_tbl h
      exact ⟨e', List.mem_cons_of_mem _ h1, h2, h3⟩
theorem tbl_lookup : ∀ {tbl : List DT} {e : DT}, (tbl.map (·.f)).Nodup → e ∈ tbl → (tbl.map fun e => (e.f, e.fn)).lookup e.f = some e.fn
  | [], _, _, h => by cases h
  | d :: es, e, nd, h => by
    rw [List.map_cons, List.nodup_cons] at nd
    rw [List.map_cons, List.lookup_cons]
    rcases List.mem_cons.mp h with rfl | h
    · simp
    · have hne : (e.f == d.f) = false := by
        simp
        intro z
        exact nd.1 (z ▸ List.mem_map_of_mem (f := fun e : DT => e.f) h)
      rw [hne]
      exact tbl_lookup nd.2 h
theorem lookup_mem {α β : Type} [BEq α] [LawfulBEq α] {cs : List (α × β)} {x : α} {d : β} (h : cs.lookup x = some d) : (x, d) ∈ cs := by
  induction cs with
  | nil => cases h
  | cons p ps ih =>
    obtain ⟨y, e⟩ := p
    rw [List.lookup_cons] at h
    split at h
    · rename_i q
      cases h
      rw [beq_iff_eq.mp q]
      exact List.mem_cons_self
    · exact List.mem_cons_of_mem _ (ih h)
section
variable {tp : Nat → Stmt} {tbl : List DT} {cs : List (String × D)} {ct : CT} {K : PySem.W.Frag} {h : Heap} {mg : Str → Option Value} {w : World}
abbrev claK (K : PySem.W.Frag) : String → Addr := fun c => He.ga K (Str.ofString c)
theorem fa_ok (c : SaysX (tFa tbl ct) (tFn tp tbl) cs ct.tabs w K) : ∀ f ∈ tFa tbl ct, f.ok K = true := fun f hf => by
  have c1 : He.obsD (tFa tbl ct) (tFn tp tbl) K = He.valD (tFn tp tbl) := congrArg Prod.fst c
  have := (He.ba (show (((tFa tbl ct).all fun f => f.ok K) && (tFn tp tbl).all fun d => d.ok K) = true from congrArg Prod.fst c1)).1
  exact List.all_eq_true.mp this f hf
theorem tbl_fd (c : SaysX (tFa tbl ct) (tFn tp tbl) cs ct.tabs w K) {e : DT} (he : e ∈ tbl) : ∃ fd, FunD K (Str.ofString e.nm) (Str.ofString e.qn) (defArgs (e.st tp)) (defBody (e.st tp)) (defScope (e.st tp)) [] [] (He.fAd K e.at_) fd := by
  have c1 : He.obsD (tFa tbl ct) (tFn tp tbl) K = He.valD (tFn tp tbl) := congrArg Prod.fst c
  obtain ⟨i, hi⟩ := List.getElem?_of_mem he
  exact He.SaysD.def_ c1 i (d := e.def_ tp) (by unfold tFn; rw [List.getElem?_map, hi]; rfl)
theorem tbl_okB (hs : tOk tp tbl cs ct = true) {e : DT} (he : e ∈ tbl) : FnScope e.N e.ps (defScope (e.st tp)) ∧ e.fn.params ≤ e.fn.names.length ∧ mtSs (tG tbl cs ct).tb e.N (defScope (e.st tp)) e.fn.body (defBody (e.st tp)) = true := by
  unfold tOk at hs
  simp only [Bool.and_eq_true] at hs
  have hk := List.all_eq_true.mp hs.1.1 e he
  unfold DT.okB at hk
  simp only [Bool.and_eq_true, decide_eq_true_eq] at hk
  exact ⟨scopeB_ok hk.1.1, hk.1.2, hk.2⟩
theorem tbl_fnS (c : SaysX (tFa tbl ct) (tFn tp tbl) cs ct.tabs w K) (hb : bindAll tp tbl) (hs : tOk tp tbl cs ct = true) {e : DT} (he : e ∈ tbl) : FnS (tG tbl cs ct).tb K e.fn (He.fAd K e.at_) := by
  obtain ⟨fd, F⟩ := tbl_fd c he
  obtain ⟨k1, k2, k3⟩ := tbl_okB hs he
  exact ⟨fd, e.st tp, _, _, F, FunD.bindsN F (bindAll_at tp hb e he), k1, k2, k3⟩
theorem tbl_nd (hs : tOk tp tbl cs ct = true) : (tbl.map (·.f)).Nodup := by
  unfold tOk at hs
  simp only [Bool.and_eq_true, decide_eq_true_eq] at hs
  exact hs.1.2
theorem fAd_fn {e : DT} (h : e.m = none) : He.fAd K e.at_ = He.ga K (Str.ofString e.x) := by
  unfold He.fAd DT.at_
  rw [h]; rfl
theorem fAd_meth {e : DT} {m : String} (h : e.m = some m) : He.fAd K e.at_ = He.ma K (He.ga K (Str.ofString e.x)) (Str.ofString m) := by
  unfold He.fAd DT.at_
  rw [h]; rfl
theorem keys_miss {P : Params} {z : Str} : ∀ {l : List DictEntry} {ks : List Str}, l.map He.keyOf = He.keysIn P ks → z ∉ ks → l.find? (·.key.isStr z) = none ∧ l.any (·.refKey) = false
  | [], _, _, _ => ⟨rfl, rfl⟩
  | e :: r, [], h, _ => by cases h
  | e :: r, k :: ks, h, hz => by
    have h1 : He.keyOf e :: r.map He.keyOf = some (k, PyData.keyHash P k) :: He.keysIn P ks := h
    injection h1 with h2 h3
    obtain ⟨i1, i2⟩ := keys_miss h3 fun q => hz (List.mem_cons_of_mem _ q)
    unfold He.keyOf at h2
    split at h2
    · rename_i x t q
      have h4 := Option.some.inj h2
      obtain ⟨h5, h6⟩ := Prod.mk.inj h4
      subst h5
      have hne : ¬ x = z := fun w => hz (w ▸ List.mem_cons_self)
      refine ⟨?_, ?_⟩
      · rw [List.find?_cons]
        have : e.key.isStr z = false := by
          rw [q]
          show (x == z) = false
          simpa using hne
        rw [this]; exact i1
      · rw [List.any_cons, i2]
        have : e.refKey = false := by unfold DictEntry.refKey; rw [q]
        rw [this]; rfl
    · cases h2
theorem dicW_miss {P : Params} {K : PySem.W.Frag} {a : Addr} {ks : List Str} {z : Str} (h : He.dicW K a = some (He.keysIn P ks)) (hz : z ∉ ks) : PySem.W.nsIn K a z = some none := by
  unfold He.dicW at h
  unfold PySem.W.nsIn
  split at h
  · rename_i c es n sl q
    rw [q]
    split at h
    · have := keys_miss (Option.some.inj h) hz
      simp only [this.1, this.2]
      rfl
    · cases h
  · cases h
theorem mem_fa1 {f : He.Fa} (h : f ∈ tbl.map (fun e => He.Fa.glo (Str.ofString e.x))) : f ∈ tFa tbl ct := by
  unfold tFa; simp only [List.mem_append]; exact .inl (.inl (.inl (.inl (.inl (.inl (.inl h))))))
theorem mem_fa2 {f : He.Fa} (h : f ∈ freeNames.map (fun b => He.Fa.free (Str.ofString b))) : f ∈ tFa tbl ct := by
  unfold tFa; simp only [List.mem_append]; exact .inl (.inl (.inl (.inl (.inl (.inl (.inr h))))))
theorem mem_fa3 {f : He.Fa} (h : f ∈ ct.flds.map (fun p => He.Fa.cls (Str.ofString p.1))) : f ∈ tFa tbl ct := by
  unfold tFa; simp only [List.mem_append]; exact .inl (.inl (.inl (.inl (.inl (.inr h)))))
theorem mem_fa4 {f : He.Fa} (h : f ∈ ct.flds.map (fun p => He.Fa.noat (Str.ofString p.1) (Str.ofString p.2))) : f ∈ tFa tbl ct := by
  unfold tFa; simp only [List.mem_append]; exact .inl (.inl (.inl (.inl (.inr h))))
theorem mem_fa5 {f : He.Fa} (h : f ∈ tbl.filterMap (fun e => e.m.map fun m => He.Fa.cls (Str.ofString e.x))) : f ∈ tFa tbl ct := by
  unfold tFa; simp only [List.mem_append]; exact .inl (.inl (.inl (.inr h)))
theorem mem_fa6 {f : He.Fa} (h : f ∈ tbl.filterMap (fun e => e.m.map fun m => He.Fa.meth (Str.ofString e.x) (Str.ofString m))) : f ∈ tFa tbl ct := by
  unfold tFa; simp only [List.mem_append]; exact .inl (.inl (.inr h))
theorem mem_fa7 {f : He.Fa} (h : f ∈ ct.makes.map (fun p => He.Fa.mkr (Str.ofString p.1))) : f ∈ tFa tbl ct := by
  unfold tFa; simp only [List.mem_append]; exact .inl (.inr h)
theorem mem_fa8 {f : He.Fa} (h : f ∈ ct.tabs.map (fun p => He.Fa.glo (Str.ofString p.1))) : f ∈ tFa tbl ct := by
  unfold tFa; simp only [List.mem_append]; exact .inr h
theorem prG (X : K.In h) (G : h.Ns mainGlobals mg) (c : SaysX (tFa tbl ct) (tFn tp tbl) cs ct.tabs w K) (hb : bindAll tp tbl) (hs : tOk tp tbl cs ct = true) : PrG (tG tbl cs ct) (claK K) K mg w := by
  have cf := fa_ok c
  have nd := tbl_nd hs
  have c2 : extB cs ct.tabs K = true := congrArg (fun z : AlX => z.2.1) c
  have c3 : (ct.tabs.map fun p => He.dicW K (He.ga K (Str.ofString p.1))) = ct.tabs.map fun p => some (He.keysIn w.params (p.2.map fun q => Str.ofString q.1)) := congrArg (fun z : AlX => z.2.2) c
  unfold extB at c2
  simp only [Bool.and_eq_true] at c2
  refine ⟨fun f hf => ?_, fun cl f hf => ?_, fun cl m f hf => ?_, fun cl hm => ?_, fun x d hx => ?_, fun x hx => ?_, fun b hb => ?_⟩
  · have hf : ((tbl.filter DT.isFn).map (·.f)).contains f = true := hf
    rw [List.contains_iff_mem] at hf
    obtain ⟨e, he, rfl⟩ := List.mem_map.mp hf
    obtain ⟨he, hi⟩ := List.mem_filter.mp he
    unfold DT.isFn at hi
    simp only [Bool.and_eq_true, decide_eq_true_eq, Option.isNone_iff_eq_none] at hi
    refine ⟨e.fn, _, tbl_lookup nd he, ?_, tbl_fnS c hb hs he⟩
    rw [fAd_fn hi.1, hi.2]
    exact He.glo_ok X G (cf _ (mem_fa1 (List.mem_map_of_mem (f := fun e : DT => He.Fa.glo (Str.ofString e.x)) he)))
  · have hf : (ct.flds).contains (cl, f) = true := hf
    rw [List.contains_iff_mem] at hf
    exact ⟨He.cls_ok (cf _ (mem_fa3 (List.mem_map_of_mem (f := fun p : String × String => He.Fa.cls (Str.ofString p.1)) hf))), He.noat_ok (cf _ (mem_fa4 (List.mem_map_of_mem (f := fun p : String × String => He.Fa.noat (Str.ofString p.1) (Str.ofString p.2)) hf)))⟩
  · have hf : (tbl.filterMap fun e => e.m.map fun m => (e.x, m, e.f)).contains (cl, m, f) = true := hf
    rw [List.contains_iff_mem] at hf
    obtain ⟨e, he, hm⟩ := List.mem_filterMap.mp hf
    obtain ⟨m', hm', hz⟩ := Option.map_eq_some_iff.mp hm
    cases hz
    refine ⟨e.fn, He.fAd K e.at_, tbl_lookup nd he, He.cls_ok (cf (.cls (Str.ofString e.x)) (mem_fa5 (List.mem_filterMap.mpr ⟨e, he, by rw [hm']; rfl⟩))), ?_, tbl_fnS c hb hs he⟩
    rw [fAd_meth hm']
    exact He.meth_ok (cf (.meth (Str.ofString e.x) (Str.ofString m)) (mem_fa6 (List.mem_filterMap.mpr ⟨e, he, by rw [hm']; rfl⟩)))
  · have hm : (ct.makes.lookup cl).isSome = true := hm
    obtain ⟨key, hk⟩ := Option.isSome_iff_exists.mp hm
    have hmem := lookup_mem hk
    unfold tOk at hs
    simp only [Bool.and_eq_true] at hs
    have hmk := List.all_eq_true.mp hs.2 _ hmem
    unfold mkB at hmk
    simp only [Bool.and_eq_true, List.any_eq_true, decide_eq_true_eq, Option.isNone_iff_eq_none] at hmk
    obtain ⟨h0, e, he, ⟨h1, h2⟩, h3⟩ := hmk
    subst h1
    refine ⟨e.f, e.fn, He.fAd K e.at_, h0, hk, tbl_lookup nd he, ?_, ?_, tbl_fnS c hb (by unfold tOk; simp only [Bool.and_eq_true]; exact hs) he⟩
    · rw [← h2]
      exact He.glo_ok X G (cf _ (mem_fa1 (List.mem_map_of_mem (f := fun e : DT => He.Fa.glo (Str.ofString e.x)) he)))
    · rw [fAd_meth h3]
      have := He.mkr_ok (cf _ (mem_fa7 (List.mem_map_of_mem (f := fun p : String × String => He.Fa.mkr (Str.ofString p.1)) hmem)))
      rw [h2]
      exact this
  · have := List.all_eq_true.mp c2.1 (x, d) (lookup_mem hx)
    unfold conB at this
    split at this
    · rename_i u hu
      obtain ⟨v, r, hv⟩ := valB_ok d this
      exact ⟨u, v, PySem.W.mg_of X G hu, r, hv⟩
    · cases this
  · have hx : (ct.tabs.lookup x).isSome = true := hx
    obtain ⟨kvs, hk⟩ := Option.isSome_iff_exists.mp hx
    have hm := lookup_mem hk
    obtain ⟨i, hi⟩ := List.getElem?_of_mem hm
    have e3 : (ct.tabs.map fun p => He.dicW K (He.ga K (Str.ofString p.1)))[i]? = (ct.tabs.map fun p => some (He.keysIn w.params (p.2.map fun q => Str.ofString q.1)))[i]? := by rw [c3]
    rw [List.getElem?_map, List.getElem?_map, hi] at e3
    have e3 := Option.some.inj e3
    obtain ⟨es, n, KD⟩ := He.dicW_ok e3
    refine ⟨kvs, hk, _, es, n, He.glo_ok X G (cf (.glo (Str.ofString x)) (mem_fa8 (List.mem_map_of_mem (f := fun p : String × List (String × D) => He.Fa.glo (Str.ofString p.1)) hm))), KD, fun z => ?_⟩
    cases hz : kvs.lookup z with
    | some dv =>
      have hv := List.all_eq_true.mp (show ((kvs.all fun q => match PySem.W.nsIn K (He.ga K (Str.ofString x)) (Str.ofString q.1) with
        | some (some u) => valB K u q.2
        | _ => false) = true) from List.all_eq_true.mp c2.2 _ hm) (z, dv) (lookup_mem hz)
      simp only at hv ⊢
      split at hv
      · rename_i u hu
        obtain ⟨v, r, hv⟩ := valB_ok dv hv
        exact ⟨u, v, hu, r, hv⟩
      · cases hv
    | none =>
      refine dicW_miss e3 fun hzm => ?_
      obtain ⟨q, hq, e⟩ := List.mem_map.mp hzm
      have : q.1 = z := ofString_inj e
      have := List.lookup_eq_none_iff.mp hz q hq
      simp_all
  · exact He.free_ok X G (cf (.free (Str.ofString b)) (mem_fa2 (List.mem_map_of_mem (f := fun b : String => He.Fa.free (Str.ofString b)) hb)))
theorem noLst_ok {a : Addr} {o : Obj} (c : noLst K = true) (hl : K.lookup a = some o) : o.cls ≠ .type "list" := by
  have hm : (a, o) ∈ K := lookup_mem hl
  have := List.all_eq_true.mp c _ hm
  intro z
  rw [z] at this
  cases this
theorem vrs_ints {g : Gh} : ∀ ns : List Int, VRs K g (ns.map V.int) (ns.map D.int)
  | [] => .nil
  | i :: ns => .cons (.int i) (vrs_ints ns)
/-- the law's call -/
theorem law_sp {cla : String → Addr} {n : Nat} {fn : Fn} {H : Hp} {a : Addr} {ns : List Int} (c : noLst K = true) (hp : fn.params = 1) (hS : SqL K H a (ns.map V.int))
    (hlaw : ∃ m, callN (tG tbl cs ct) n "law" [.fl (ns.map D.int)] [] = .ok (.val (.bl true)) m) : spOf K cla (tG tbl cs ct) n "law" fn [.ref a] H (fun v _ => v = .bl true) fun _ _ _ => False := by
  have hR : Rd H a (.lst (ns.map V.int)) := by
    rcases hS with h | ⟨o, its, n, hl, hc, _⟩
    · exact h
    · exact absurd hc (noLst_ok c hl)
  refine ⟨⟨H, fun _ => none⟩, [], [.fl (ns.map D.int)], .one (.fl hR (vrs_ints _)), ⟨fun _ _ h => h, (fun w w' a h => by cases h), (fun w a h => by cases h), (fun w a h => by cases h), (fun l o h => by simp at h), (fun l a h => by cases h), (fun l f a h => by cases h)⟩, fun _ => rfl, hp.symm, ?_⟩
  obtain ⟨m, e⟩ := hlaw
  rw [e]
  intro v H' g' E' S' _ rr
  cases rr
  rfl
end
/-- a law's end, by the run of the small Python -/
theorem law_end {l : PySem.W.OpenLaw} {tp : Nat → Stmt} {tbl : List DT} {cs : List (String × D)} {ct : CT} {n k : Nat} {q : Program} {loose : List Str} {XP : (Str → Option Value) → Heap → Prop} {d : DefRec} {e : DT}
    (hn : l.most = some 63) (hdf : d.params.defaults = []) (hname : d.name = ("law" : Str)) (hr : Room n callerA) (hb : bindAll tp tbl) (hs : tOk tp tbl cs ct = true) (he : e ∈ tbl) (hem : e.m = none) (hef : e.f = "law") (hex : e.x = "law") (hp : e.fn.params = 1)
    (hx : (e.fn.names.map Str.ofString).take 1 = [("script" : Str)])
    (hlaw : ∀ ns : List Int, ns.length ≤ 63 → ∃ m, callN (tG tbl cs ct) n "law" [.fl (ns.map D.int)] [] = .ok (.val (.bl true)) m) :
    PySem.W.WalkO q loose XP (hookX k (tFa tbl ct) (tFn tp tbl) cs ct.tabs).says l.row.toRowW d [] (fun f vs => PySem.call f vs) := by
  refine L2.walk_ofE (l := l) (n := 63) (k := n) (x := "script") (CX := L2.CX0) hn (by rw [sizeLine_eq]; decide) hdf hr ?_ (fun _ _ _ _ z => z)
  intro w mg fa h Y G hmg
  obtain ⟨K, KX, hnl, c⟩ := Y
  rw [hname] at hmg
  have R := prG KX G c hb hs
  obtain ⟨fd, F⟩ := tbl_fd c he
  have h1 : mg (Str.ofString "law") = some (.ref (He.fAd K e.at_)) := by
    rw [fAd_fn hem, ← hex]
    exact He.glo_ok KX G (fa_ok c _ (mem_fa1 (List.mem_map_of_mem (f := fun e : DT => He.Fa.glo (Str.ofString e.x)) he)))
  rw [h1] at hmg
  cases hmg
  obtain ⟨k1, k2, k3⟩ := tbl_okB hs he
  have hfn : (tG tbl cs ct).fns.lookup "law" = some e.fn := by rw [← hef]; exact tbl_lookup (tbl_nd hs) he
  have hps : e.ps = [("script" : Str)] := by unfold DT.ps DT.N; rw [hp]; exact hx
  have c2 : extB cs ct.tabs K = true := congrArg (fun z : AlX => z.2.1) c
  unfold extB at c2
  simp only [Bool.and_eq_true] at c2
  have hbe := bindAll_at tp hb e he
  refine ⟨K, fd, fun vs H Q _ => spOf K (claK K) (tG tbl cs ct) n "law" e.fn vs H Q (fun _ _ _ => False), KX, fun s u => ?_, fun H a ns hl _ hS => law_sp hnl hp hS (hlaw ns hl), fun base _ _ => ?_⟩
  · have := FunD.bindsA (ps := e.ps) F hbe s [u] (by rw [hps]; rfl)
    rw [hps] at this
    exact this
  · have A : FnOk l.prog w K mg base (L2.CX l.prog w) n _ fd e.ps (spOf K (claK K) (tG tbl cs ct) n "law" e.fn) := fnOk_at R n hfn F k1 k2 k3
    rw [hps] at A
    refine ⟨fun vs H Q E h => A.len vs H Q _ h, fun A' outer s H args us vs Q E hr e0 hb' r h => codeAny_mono (A.run A' outer s H args us vs Q _ hr e0 hb' r h) fun r s' hq => ?_⟩
    cases r with
    | ok fl => cases fl <;> exact hq
    | error e =>
      obtain ⟨_, _, _, _, _, _, _, _, _, _, _, _, hE⟩ := hq
      exact hE.elim
end P3
set_option Elab.async false
set_option linter.all false
set_option maxRecDepth 100000
set_option maxHeartbeats 0
/-! P4A: words for mirrors -/
namespace P3
open PySem L2
/-! ### the run, by equations -/
def getV (o : Option (Option Slot)) (m : Mem) : Out Rv := match o with
  | some (some (.val d)) => .ok (.val d) m
  | _ => .stuck
@[simp] theorem getV_val (d : D) (m : Mem) : getV (some (some (.val d))) m = .ok (.val d) m := rfl
/-- what is looked at of a slot -/
def pkI (o : Option (Option Slot)) (r : Out Rv) (m : Mem) : Out D := match o with
  | some (some (.own c)) => .ok c.toD m
  | _ => toV r
@[simp] theorem pkI_val (d : D) (r : Out Rv) (m : Mem) : pkI (some (some (.val d))) r m = toV r := rfl
@[simp] theorem pkI_own (c : Ct) (r : Out Rv) (m : Mem) : pkI (some (some (.own c))) r m = .ok c.toD m := rfl
def ownI (i : Nat) (o : Option (Option Slot)) : Option (Nat × Ct) := match o with
  | some (some (.own c)) => some (i, c)
  | _ => none
@[simp] theorem ownI_val (i : Nat) (d : D) : ownI i (some (some (.val d))) = none := rfl
@[simp] theorem ownI_own (i : Nat) (c : Ct) : ownI i (some (some (.own c))) = some (i, c) := rfl
def isVar : ME → Bool
  | .var _ => true
  | _ => false
section
variable {GC : Cons} {C : Call} {τ : Tau} {m : Mem} {α β : Type}
@[simp] theorem ev_var (i : Nat) : evalE GC C (.var i) τ m = getV τ[i]? m := rfl
@[simp] theorem ev_glob (x : String) : evalE GC C (.glob x) τ m = (match GC.lookup x with
    | some d => .ok (.val d) m
    | none => .stuck) := rfl
@[simp] theorem ev_int (i : Int) : evalE GC C (.int i) τ m = .ok (.val (.int i)) m := rfl
@[simp] theorem ev_str (i : String) : evalE GC C (.str i) τ m = .ok (.val (.str i)) m := rfl
@[simp] theorem ev_bl (i : Bool) : evalE GC C (.bl i) τ m = .ok (.val (.bl i)) m := rfl
@[simp] theorem ev_non : evalE GC C .non τ m = .ok (.val .non) m := rfl
@[simp] theorem ev_neg (n : Nat) : evalE GC C (.neg n) τ m = .ok (.val (.int (-(n : Int)))) m := rfl
@[simp] theorem ev_tup (es : MEs) : evalE GC C (.tup es) τ m = (evalEs GC C es τ m).bind fun ds m1 => if ds.length ≤ lim then .ok (.val (.tup ds)) m1 else .stuck := rfl
@[simp] theorem ev_lst (es : MEs) : evalE GC C (.lst es) τ m = (evalEs GC C es τ m).bind fun ds m1 => if ds.length ≤ lim then .ok (.own (.lst ds)) m1 else .stuck := rfl
@[simp] theorem ev_bin (op : BOp) (a b : ME) : evalE GC C (.bin op a b) τ m = (pk a τ m (evalE GC C a τ m)).bind fun x m1 => (pk b τ m1 (evalE GC C b τ m1)).bind fun y m2 => opt (binEv op x y) m2 := rfl
@[simp] theorem ev_cmp (op : COp) (a b : ME) : evalE GC C (.cmp op a b) τ m = (pk a τ m (evalE GC C a τ m)).bind fun x m1 => (pk b τ m1 (evalE GC C b τ m1)).bind fun y m2 => (opt (cmpEv op x y) m2).bind fun d m3 => .ok (.val d) m3 := rfl
@[simp] theorem ev_chain (o1 o2 : COp) (a b c : ME) : evalE GC C (.chain o1 o2 a b c) τ m = (toV (evalE GC C a τ m)).bind fun x m1 => (toV (evalE GC C b τ m1)).bind fun y m2 => (opt (cmpEv o1 x y) m2).bind fun d m3 => (opt (asBool d) m3).bind fun k m4 =>
      if k then (toV (evalE GC C c τ m4)).bind fun z m5 => (opt (cmpEv o2 y z) m5).bind fun d m6 => .ok (.val d) m6 else .ok (.val (.bl false)) m4 := rfl
@[simp] theorem ev_not (a : ME) : evalE GC C (.not a) τ m = (toV (evalE GC C a τ m)).bind fun x m1 => (opt (asBool x) m1).bind fun k m2 => .ok (.val (.bl (!k))) m2 := rfl
@[simp] theorem ev_and (a b : ME) : evalE GC C (.and a b) τ m = (toV (evalE GC C a τ m)).bind fun x m1 => (opt (asBool x) m1).bind fun k m2 => if k then evalE GC C b τ m2 else .ok (.val (.bl false)) m2 := rfl
@[simp] theorem ev_or (a b : ME) : evalE GC C (.or a b) τ m = (toV (evalE GC C a τ m)).bind fun x m1 => (opt (asBool x) m1).bind fun k m2 => if k then .ok (.val (.bl true)) m2 else evalE GC C b τ m2 := rfl
@[simp] theorem ev_one (a : ME) : evalE GC C (.one a) τ m = evalE GC C a τ m := rfl
@[simp] theorem ev_ife (c a b : ME) : evalE GC C (.ife c a b) τ m = (toV (evalE GC C c τ m)).bind fun x m1 => (opt (asBool x) m1).bind fun k m2 => if k then evalE GC C a τ m2 else evalE GC C b τ m2 := rfl
@[simp] theorem ev_idx (a i : ME) : evalE GC C (.idx a i) τ m = (pk a τ m (evalE GC C a τ m)).bind fun x m1 => (toV (evalE GC C i τ m1)).bind fun y m2 => (opt (idxEv (deref m2 x) y) m2).bind fun d m3 => .ok (.val d) m3 := rfl
@[simp] theorem ev_slc (a : ME) (lo hi : MEs) : evalE GC C (.slc a lo hi) τ m = (pk a τ m (evalE GC C a τ m)).bind fun x m1 => (evalP GC C lo τ m1).bind fun l m2 => (evalP GC C hi τ m2).bind fun h m3 => opt (slcEv (deref m3 x) l h) m3 := rfl
@[simp] theorem ev_call (f : String) (es : MEs) : evalE GC C (.call f es) τ m = (evalEs GC C es τ m).bind fun ds m1 => C f ds m1 := rfl
@[simp] theorem ev_blt (f : BF) (a : ME) : evalE GC C (.blt f a) τ m = (pk a τ m (evalE GC C a τ m)).bind fun x m1 => opt (bfEv f (deref m1 x)) m1 := rfl
@[simp] theorem ev_isi (a : ME) (t : IT) : evalE GC C (.isi a t) τ m = (toV (evalE GC C a τ m)).bind fun x m1 => (opt (isiEv t x) m1).bind fun k m2 => .ok (.val (.bl k)) m2 := rfl
@[simp] theorem ev_lc (e : ME) (tg : Tgt) (it : MI) (cond : MEs) (own : List (String × Nat)) : evalE GC C (.lc e tg it cond own) τ m = (evalI GC C it τ m).bind fun xs m1 => if (own.map (·.2)).all (noOwn τ) then
      (lcEv (tgEv tg) (fun τ m => noexc (evalT GC C cond τ m)) (fun τ m => noexc (toV (evalE GC C e τ m))) xs (wipeT τ (own.map (·.2))) m1 []).bind (fun ds m2 => .ok (.own (.lst ds)) m2) else .stuck := rfl
def allocO (r : Rv) (m1 : Mem) : Out Rv := match r with
    | .own c => .ok (.val (.loc m1.length)) (m1 ++ [.ct c])
    | .val _ => .stuck
@[simp] theorem allocO_own (c : Ct) : allocO (.own c) m = .ok (.val (.loc m.length)) (m ++ [.ct c]) := rfl
@[simp] theorem ev_alloc (a : ME) : evalE GC C (.alloc a) τ m = (evalE GC C a τ m).bind allocO := rfl
@[simp] theorem ev_sset (a : ME) : evalE GC C (.sset a) τ m = (pk a τ m (evalE GC C a τ m)).bind fun x m1 => opt (ssetEv (deref m1 x)) m1 := rfl
@[simp] theorem ev_mx (a b : ME) : evalE GC C (.mx a b) τ m = (toV (evalE GC C a τ m)).bind fun x m1 => (toV (evalE GC C b τ m1)).bind fun y m2 => (opt (mxEv x y) m2).bind fun d m3 => .ok (.val d) m3 := rfl
@[simp] theorem mx_int (i j : Int) : mxEv (.int i) (.int j) = some (.int (if j > i then j else i)) := rfl
@[simp] theorem evs_nil : evalEs GC C .nil τ m = .ok [] m := rfl
@[simp] theorem evs_cons (e : ME) (es : MEs) : evalEs GC C (.cons e es) τ m = (toV (evalE GC C e τ m)).bind fun d m1 => (evalEs GC C es τ m1).bind fun ds m2 => .ok (d :: ds) m2 := rfl
@[simp] theorem evp_nil : evalP GC C .nil τ m = .ok none m := rfl
@[simp] theorem evp_cons (e : ME) (es : MEs) : evalP GC C (.cons e es) τ m = (toV (evalE GC C e τ m)).bind fun d m1 => (opt (asInt d) m1).bind fun i m2 => .ok (some i) m2 := rfl
@[simp] theorem evt_nil : evalT GC C .nil τ m = .ok true m := rfl
@[simp] theorem evt_cons (e : ME) (es : MEs) : evalT GC C (.cons e es) τ m = (toV (evalE GC C e τ m)).bind fun d m1 => opt (asBool d) m1 := rfl
@[simp] theorem evi_seq (e : ME) : evalI GC C (.seq e) τ m = (toV (evalE GC C e τ m)).bind fun x m1 => opt (itemsOf x) m1 := rfl
@[simp] theorem evi_r1 (a : ME) : evalI GC C (.range1 a) τ m = (toV (evalE GC C a τ m)).bind fun x m1 => (opt (asInt x) m1).bind fun i m2 => if midInt i then .ok (rangeOf 0 i) m2 else .stuck := rfl
@[simp] theorem evi_r2 (a b : ME) : evalI GC C (.range2 a b) τ m = (toV (evalE GC C a τ m)).bind fun x m1 => (toV (evalE GC C b τ m1)).bind fun y m2 => (opt (asInt x) m2).bind fun i m3 => (opt (asInt y) m3).bind fun j m4 => if midInt i && midInt j then .ok (rangeOf i j) m4 else .stuck := rfl
@[simp] theorem evi_zip (a b : ME) : evalI GC C (.zip a b) τ m = (toV (evalE GC C a τ m)).bind fun x m1 => (toV (evalE GC C b τ m1)).bind fun y m2 => (opt (itemsOf x) m2).bind fun xs m3 => (opt (itemsOf y) m3).bind fun ys m4 => if x.alike y then .ok (zipOf xs ys) m4 else .stuck := rfl
@[simp] theorem evB (e : ME) : evalB GC C e τ m = (toV (evalE GC C e τ m)).bind fun d m1 => opt (asBool d) m1 := rfl
@[simp] theorem evV (e : ME) : evalV GC C e τ m = toV (evalE GC C e τ m) := rfl
@[simp] theorem own_var (i : Nat) : ME.own? τ (.var i) = ownI i τ[i]? := by
  show (match τ[i]? with | some (some (.own c)) => some (i, c) | _ => none) = _
  unfold ownI
  rfl
@[simp] theorem own_idx (a i : ME) : ME.own? τ (.idx a i) = none := rfl
@[simp] theorem pk_var (i : Nat) (r : Out Rv) : pk (.var i) τ m r = pkI τ[i]? r m := by
  unfold pk
  rw [own_var]
  cases τ[i]? with
  | none => rfl
  | some o =>
    cases o with
    | none => rfl
    | some s => cases s <;> rfl
@[simp] theorem pk_glob (x : String) (r : Out Rv) : pk (.glob x) τ m r = toV r := rfl
@[simp] theorem pk_int (x : Int) (r : Out Rv) : pk (.int x) τ m r = toV r := rfl
@[simp] theorem pk_str (x : String) (r : Out Rv) : pk (.str x) τ m r = toV r := rfl
@[simp] theorem pk_bl (x : Bool) (r : Out Rv) : pk (.bl x) τ m r = toV r := rfl
@[simp] theorem pk_non (r : Out Rv) : pk .non τ m r = toV r := rfl
@[simp] theorem pk_neg (n : Nat) (r : Out Rv) : pk (.neg n) τ m r = toV r := rfl
@[simp] theorem pk_tup (es : MEs) (r : Out Rv) : pk (.tup es) τ m r = toV r := rfl
@[simp] theorem pk_lst (es : MEs) (r : Out Rv) : pk (.lst es) τ m r = toV r := rfl
@[simp] theorem pk_bin (op : BOp) (a b : ME) (r : Out Rv) : pk (.bin op a b) τ m r = toV r := rfl
@[simp] theorem pk_cmp (op : COp) (a b : ME) (r : Out Rv) : pk (.cmp op a b) τ m r = toV r := rfl
@[simp] theorem pk_chain (o1 o2 : COp) (a b c : ME) (r : Out Rv) : pk (.chain o1 o2 a b c) τ m r = toV r := rfl
@[simp] theorem pk_not (a : ME) (r : Out Rv) : pk (.not a) τ m r = toV r := rfl
@[simp] theorem pk_and (a b : ME) (r : Out Rv) : pk (.and a b) τ m r = toV r := rfl
@[simp] theorem pk_or (a b : ME) (r : Out Rv) : pk (.or a b) τ m r = toV r := rfl
@[simp] theorem pk_one (a : ME) (r : Out Rv) : pk (.one a) τ m r = toV r := rfl
@[simp] theorem pk_ife (a b c : ME) (r : Out Rv) : pk (.ife a b c) τ m r = toV r := rfl
@[simp] theorem pk_idx (a b : ME) (r : Out Rv) : pk (.idx a b) τ m r = toV r := rfl
@[simp] theorem pk_slc (a : ME) (b c : MEs) (r : Out Rv) : pk (.slc a b c) τ m r = toV r := rfl
@[simp] theorem pk_call (f : String) (es : MEs) (r : Out Rv) : pk (.call f es) τ m r = toV r := rfl
@[simp] theorem pk_blt (f : BF) (a : ME) (r : Out Rv) : pk (.blt f a) τ m r = toV r := rfl
@[simp] theorem pk_isi (a : ME) (t : IT) (r : Out Rv) : pk (.isi a t) τ m r = toV r := rfl
@[simp] theorem pk_sset (a : ME) (r : Out Rv) : pk (.sset a) τ m r = toV r := rfl
@[simp] theorem pk_mx (a b : ME) (r : Out Rv) : pk (.mx a b) τ m r = toV r := rfl
@[simp] theorem pk_lc (e : ME) (tg : Tgt) (it : MI) (cond : MEs) (own : List (String × Nat)) (r : Out Rv) : pk (.lc e tg it cond own) τ m r = toV r := rfl
@[simp] theorem bind_ok (a : α) (k : α → Mem → Out β) : (Out.ok a m).bind k = k a m := rfl
@[simp] theorem bind_exc (e : Exn) (k : α → Mem → Out β) : (Out.exc e m : Out α).bind k = .exc e m := rfl
@[simp] theorem outS_ok (a : α) (k : α → Mem → SOut) : outS (.ok a m) τ k = k a m := rfl
@[simp] theorem outS_exc (e : Exn) (k : α → Mem → SOut) : outS (.exc e m : Out α) τ k = .exc e τ m := rfl
@[simp] theorem then_nx (k : Tau → Mem → SOut) : (SOut.nx τ m).andThen k = k τ m := rfl
@[simp] theorem then_ct (k : Tau → Mem → SOut) : (SOut.ct τ m).andThen k = .ct τ m := rfl
@[simp] theorem then_bk (k : Tau → Mem → SOut) : (SOut.bk τ m).andThen k = .bk τ m := rfl
@[simp] theorem then_ret (r : Rv) (k : Tau → Mem → SOut) : (SOut.ret r m).andThen k = .ret r m := rfl
@[simp] theorem then_exc (e : Exn) (k : Tau → Mem → SOut) : (SOut.exc e τ m).andThen k = .exc e τ m := rfl
@[simp] theorem toV_val (d : D) : toV (.ok (.val d) m) = .ok d m := rfl
@[simp] theorem toV_own (c : Ct) : toV (.ok (.own c) m) = .ok c.toD m := rfl
@[simp] theorem toV_exc (e : Exn) : toV (.exc e m) = .exc e m := rfl
@[simp] theorem opt_some (a : α) : opt (some a) m = .ok a m := rfl
@[simp] theorem noexc_okE (a : α) : noexc (.ok a m : Out α) = .ok a m := rfl
@[simp] theorem toD_lst (ds : List D) : (Ct.lst ds).toD = .fl ds := rfl
@[simp] theorem slot_val (d : D) : (Rv.val d).slot = .val d := rfl
@[simp] theorem slot_own (c : Ct) : (Rv.own c).slot = .own c := rfl
@[simp] theorem deref_tup (ds : List D) : deref m (.tup ds) = .tup ds := rfl
@[simp] theorem deref_fl (ds : List D) : deref m (.fl ds) = .fl ds := rfl
@[simp] theorem deref_int (i : Int) : deref m (.int i) = .int i := rfl
@[simp] theorem deref_bl (i : Bool) : deref m (.bl i) = .bl i := rfl
@[simp] theorem bf_all (bs : List D) : bfEv .all (.fl bs) = (allBool bs).map fun bs => .val (.bl (bs.all id)) := rfl
@[simp] theorem bf_any (bs : List D) : bfEv .any (.fl bs) = (allBool bs).map fun bs => .val (.bl (bs.any id)) := rfl
@[simp] theorem bf_tup (ds : List D) : bfEv .tuple (.tup ds) = some (.val (.tup ds)) := rfl
@[simp] theorem bf_tupL (ds : List D) : bfEv .tuple (.fl ds) = some (.val (.tup ds)) := rfl
@[simp] theorem bf_lst (ds : List D) : bfEv .list (.tup ds) = some (.own (.lst ds)) := rfl
@[simp] theorem bf_lstL (ds : List D) : bfEv .list (.fl ds) = some (.own (.lst ds)) := rfl
@[simp] theorem bf_int (i : Int) : bfEv .int (.int i) = some (.val (.int i)) := rfl
@[simp] theorem bf_lenT (ds : List D) : bfEv .len (.tup ds) = some (.val (.int ds.length)) := rfl
@[simp] theorem bf_lenL (ds : List D) : bfEv .len (.fl ds) = some (.val (.int ds.length)) := rfl
@[simp] theorem allB_nil : allBool [] = some [] := rfl
@[simp] theorem allB_cons (b : Bool) (r : List D) : allBool (.bl b :: r) = (allBool r).map (b :: ·) := rfl
@[simp] theorem asB (b : Bool) : asBool (.bl b) = some b := rfl
@[simp] theorem asI (i : Int) : asInt (.int i) = some i := rfl
@[simp] theorem items_tup (ds : List D) : itemsOf (.tup ds) = if ds.length ≤ lim then some ds else none := rfl
@[simp] theorem items_fl (ds : List D) : itemsOf (.fl ds) = if ds.length ≤ lim then some ds else none := rfl
@[simp] theorem alike_tup (a b : List D) : D.alike (.tup a) (.tup b) = true := rfl
@[simp] theorem alike_fl (a b : List D) : D.alike (.fl a) (.fl b) = true := rfl
@[simp] theorem idx_tup (ds : List D) (i : Int) : idxEv (.tup ds) (.int i) = if ds.length ≤ lim then D.at ds i else none := rfl
@[simp] theorem idx_fl (ds : List D) (i : Int) : idxEv (.fl ds) (.int i) = if ds.length ≤ lim then D.at ds i else none := rfl
@[simp] theorem slc_tup (ds : List D) (lo hi : Option Int) : slcEv (.tup ds) lo hi = if ds.length ≤ lim then some (.val (.tup (cut ds lo hi))) else none := rfl
@[simp] theorem slc_fl (ds : List D) (lo hi : Option Int) : slcEv (.fl ds) lo hi = if ds.length ≤ lim then some (.own (.lst (cut ds lo hi))) else none := rfl
@[simp] theorem cut_1n (d : D) (ds : List D) : cut (d :: ds) (some 1) none = ds := by
  unfold cut cutAt
  simp
@[simp] theorem cut_n1 (d : D) (ds : List D) : cut (d :: ds) none (some 1) = [d] := by
  unfold cut cutAt
  simp
@[simp] theorem at_0 (d : D) (ds : List D) : D.at (d :: ds) 0 = some d := by
  unfold D.at placeOf
  rw [if_pos (by omega), if_pos (by simp only [List.length_cons]; omega)]
  rfl
@[simp] theorem at_1 (c d : D) (ds : List D) : D.at (c :: d :: ds) 1 = some d := by
  unfold D.at placeOf
  rw [if_pos (by omega), if_pos (by simp only [List.length_cons]; omega)]
  rfl
@[simp] theorem at_2 (b c d : D) (ds : List D) : D.at (b :: c :: d :: ds) 2 = some d := by
  unfold D.at placeOf
  rw [if_pos (by omega), if_pos (by simp only [List.length_cons]; omega)]
  rfl
@[simp] theorem at_3 (a b c d : D) (ds : List D) : D.at (a :: b :: c :: d :: ds) 3 = some d := by
  unfold D.at placeOf
  rw [if_pos (by omega), if_pos (by simp only [List.length_cons]; omega)]
  rfl
@[simp] theorem at_4 (z a b c d : D) (ds : List D) : D.at (z :: a :: b :: c :: d :: ds) 4 = some d := by
  unfold D.at placeOf
  rw [if_pos (by omega), if_pos (by simp only [List.length_cons]; omega)]
  rfl
@[simp] theorem add_int (i j : Int) : binEv .add (.int i) (.int j) = some (.val (.int (i + j))) := rfl
@[simp] theorem sub_int (i j : Int) : binEv .sub (.int i) (.int j) = some (.val (.int (i - j))) := rfl
@[simp] theorem add_tup (a b : List D) : binEv .add (.tup a) (.tup b) = if a.length + b.length ≤ lim then some (.val (.tup (a ++ b))) else none := by
  show (if decide (a.length + b.length ≤ lim) = true then _ else _) = _
  simp only [decide_eq_true_eq]
@[simp] theorem add_fl (a b : List D) : binEv .add (.fl a) (.fl b) = if a.length + b.length ≤ lim then some (.own (.lst (a ++ b))) else none := by
  show (if decide (a.length + b.length ≤ lim) = true then _ else _) = _
  simp only [decide_eq_true_eq]
@[simp] theorem eq_is (a b : D) : cmpEv .eq a b = (eqD a b).map .bl := rfl
@[simp] theorem ne_is (a b : D) : cmpEv .ne a b = (eqD a b).map fun k => .bl (!k) := rfl
@[simp] theorem lt_is (a b : Int) : cmpEv .lt (.int a) (.int b) = some (.bl (decide (a < b))) := rfl
@[simp] theorem le_is (a b : Int) : cmpEv .le (.int a) (.int b) = some (.bl (decide (a ≤ b))) := rfl
@[simp] theorem gt_is (a b : Int) : cmpEv .gt (.int a) (.int b) = some (.bl (decide (b < a))) := rfl
@[simp] theorem ge_is (a b : Int) : cmpEv .ge (.int a) (.int b) = some (.bl (decide (b ≤ a))) := rfl
@[simp] theorem is_non (a : D) : cmpEv .is_ a .non = some (.bl a.isNon) := by cases a <;> rfl
@[simp] theorem isnt_non (a : D) : cmpEv .isnt a .non = some (.bl (!a.isNon)) := by cases a <;> rfl
@[simp] theorem isNon_tup (ds : List D) : D.isNon (.tup ds) = false := rfl
@[simp] theorem isNon_non : D.isNon .non = true := rfl
@[simp] theorem isi_tt (ds : List D) : isiEv .tuple (.tup ds) = some true := rfl
@[simp] theorem isi_lt (ds : List D) : isiEv .list (.tup ds) = some false := rfl
@[simp] theorem isi_bt (ds : List D) : isiEv .bool (.tup ds) = some false := rfl
@[simp] theorem isi_it (ds : List D) : isiEv .int (.tup ds) = some false := rfl
@[simp] theorem isi_st (ds : List D) : isiEv .str (.tup ds) = some false := rfl
@[simp] theorem body_nx : bodyOut (.nx τ m) = .ok (.val .non) m := rfl
@[simp] theorem body_ret (r : Rv) : bodyOut (.ret r m) = .ok r m := rfl
@[simp] theorem body_exc (e : Exn) : bodyOut (.exc e τ m) = .exc e m := rfl
@[simp] theorem tg_name (i : Nat) (d : D) : tgEv (.name i) d τ = some (τ.set i (some (.val d))) := rfl
@[simp] theorem tg_tup (is : List Nat) (ds : List D) : tgEv (.tup is) (.tup ds) τ = if ds.length ≤ lim then setNames is ds τ else none := rfl
@[simp] theorem names_nil : setNames [] [] τ = some τ := rfl
@[simp] theorem names_cons (i : Nat) (is : List Nat) (d : D) (ds : List D) : setNames (i :: is) (d :: ds) τ = setNames is ds (τ.set i (some (.val d))) := rfl
@[simp] theorem zip_nil (ys : List D) : zipOf [] ys = [] := by cases ys <;> rfl
@[simp] theorem zip_nilR (xs : List D) : zipOf xs [] = [] := by cases xs <;> rfl
@[simp] theorem zip_cons (x y : D) (xs ys : List D) : zipOf (x :: xs) (y :: ys) = .tup [x, y] :: zipOf xs ys := rfl
@[simp] theorem wipe_nil : wipeT τ [] = τ := rfl
@[simp] theorem wipe_cons (v : Nat) (vs : List Nat) : wipeT τ (v :: vs) = (wipeT τ vs).set v none := rfl
def noOwnI (o : Option (Option Slot)) : Bool := match o with
  | some (some (.own _)) => false
  | _ => true
@[simp] theorem noOwnI_val (d : D) : noOwnI (some (some (.val d))) = true := rfl
@[simp] theorem noOwnI_none : noOwnI (some none) = true := rfl
@[simp] theorem noOwnI_none' : noOwnI none = true := rfl
@[simp] theorem noOwn_is (i : Nat) : noOwn τ i = noOwnI τ[i]? := by
  unfold noOwn noOwnI
  rfl
@[simp] theorem lc_nil (asg : D → Tau → Option Tau) (cond : Tau → Mem → Out Bool) (elt : Tau → Mem → Out D) (acc : List D) : lcEv asg cond elt [] τ m acc = .ok acc m := rfl
theorem lc_cons {asg : D → Tau → Option Tau} {cond : Tau → Mem → Out Bool} {elt : Tau → Mem → Out D} {x : D} {xs acc : List D} : lcEv asg cond elt (x :: xs) τ m acc = (match asg x τ with
    | none => .stuck
    | some τ' => (cond τ' m).bind fun b m1 => if b then (elt τ' m1).bind fun d m2 => if acc.length < lim then lcEv asg cond elt xs τ m2 (acc ++ [d]) else .stuck else lcEv asg cond elt xs τ m1 acc) := rfl
@[simp] theorem run_pass : runS GC C .pass τ m = .nx τ m := rfl
@[simp] theorem run_cont : runS GC C .cont τ m = .ct τ m := rfl
@[simp] theorem run_brk : runS GC C .brk τ m = .bk τ m := rfl
@[simp] theorem run_retN : runS GC C .retN τ m = .ret (.val .non) m := rfl
@[simp] theorem run_expr (e : ME) : runS GC C (.expr e) τ m = outS (evalE GC C e τ m) τ fun _ m1 => .nx τ m1 := rfl
@[simp] theorem run_set (i : Nat) (e : ME) : runS GC C (.set i e) τ m = outS (evalE GC C e τ m) τ fun r m1 => .nx (τ.set i (some r.slot)) m1 := rfl
@[simp] theorem run_par (is : List Nat) (es : MEs) : runS GC C (.par is es) τ m = outS (evalEs GC C es τ m) τ fun ds m1 => (match setNames is ds τ with
    | some τ' => .nx τ' m1
    | none => .stuck) := rfl
@[simp] theorem run_asg (is : List Nat) (e : ME) : runS GC C (.asg is e) τ m = outS (evalV GC C e τ m) τ fun d m1 => (match tgEv (.tup is) d τ with
    | some τ' => .nx τ' m1
    | none => .stuck) := rfl
@[simp] theorem run_append (a e : ME) : runS GC C (.append a e) τ m = outS (pk a τ m (evalE GC C a τ m)) τ fun x m1 => if lstAt (a.own? τ) m1 x = false then .stuck else outS (evalV GC C e τ m1) τ fun d m2 => putS (a.own? τ) τ m2 x (pushAt · d) := rfl
@[simp] theorem run_extend (a e : ME) : runS GC C (.extend a e) τ m = outS (pk a τ m (evalE GC C a τ m)) τ fun x m1 => if lstAt (a.own? τ) m1 x = false then .stuck else outS (evalV GC C e τ m1) τ fun d m2 => putS (a.own? τ) τ m2 x (extAt · d) := rfl
def frzS (o : Option (Option Slot)) (i : Nat) (τ : Tau) (m : Mem) : SOut := match o with
    | some (some (.own c)) => .nx (τ.set i (some (.val c.toD))) m
    | some (some (.val _)) => .nx τ m
    | _ => .stuck
@[simp] theorem frzS_own (c : Ct) (i : Nat) : frzS (some (some (.own c))) i τ m = .nx (τ.set i (some (.val c.toD))) m := rfl
@[simp] theorem frzS_val (d : D) (i : Nat) : frzS (some (some (.val d))) i τ m = .nx τ m := rfl
@[simp] theorem run_freeze (i : Nat) : runS GC C (.freeze i) τ m = frzS τ[i]? i τ m := rfl
@[simp] theorem lstAt_own (k : Nat) (ds : List D) (x : D) : lstAt (some (k, .lst ds)) m x = true := rfl
@[simp] theorem putS_own (k : Nat) (c : Ct) (x : D) (f : Ct → Option Ct) : putS (some (k, c)) τ m x f = (match f c with
    | some c' => .nx (τ.set k (some (.own c'))) m
    | none => .stuck) := rfl
@[simp] theorem pushAt_lst (xs : List D) (d : D) : pushAt (.lst xs) d = if xs.length < lim then some (.lst (xs ++ [d])) else none := rfl
@[simp] theorem extAt_tup (xs ys : List D) : extAt (.lst xs) (.tup ys) = if xs.length + ys.length ≤ lim then some (.lst (xs ++ ys)) else none := rfl
@[simp] theorem extAt_fl (xs ys : List D) : extAt (.lst xs) (.fl ys) = if xs.length + ys.length ≤ lim then some (.lst (xs ++ ys)) else none := rfl
@[simp] theorem run_iff (c : ME) (a b : MSs) : runS GC C (.iff c a b) τ m = outS (evalB GC C c τ m) τ fun k m1 => if k then runSs GC C a τ m1 else runSs GC C b τ m1 := rfl
def retO (i : Option (Nat × Ct)) (o : Out Rv) (τ : Tau) (m : Mem) : SOut := match i with
  | some (_, c) => .ret (.own c) m
  | none => outS o τ fun r m1 => .ret r m1
@[simp] theorem retO_own (k : Nat) (c : Ct) (o : Out Rv) : retO (some (k, c)) o τ m = .ret (.own c) m := rfl
@[simp] theorem retO_none (o : Out Rv) : retO none o τ m = outS o τ fun r m1 => .ret r m1 := rfl
theorem run_ret (e : ME) : runS GC C (.ret e) τ m = retO (e.own? τ) (evalE GC C e τ m) τ m := by
  unfold runS retO
  cases e.own? τ <;> rfl
@[simp] theorem run_retV (i : Nat) : runS GC C (.ret (.var i)) τ m = retO (ownI i τ[i]?) (getV τ[i]? m) τ m := by
  rw [run_ret, own_var, ev_var]
theorem run_retE {e : ME} (h : isVar e = false) : runS GC C (.ret e) τ m = outS (evalE GC C e τ m) τ fun r m1 => .ret r m1 := by
  rw [run_ret]
  cases e <;> first | rfl | cases h
@[simp] theorem ret_glob (x : String) : runS GC C (.ret (.glob x)) τ m = outS (evalE GC C (.glob x) τ m) τ fun r m1 => .ret r m1 := run_retE rfl
@[simp] theorem ret_int (i : Int) : runS GC C (.ret (.int i)) τ m = outS (evalE GC C (.int i) τ m) τ fun r m1 => .ret r m1 := run_retE rfl
@[simp] theorem ret_str (x : String) : runS GC C (.ret (.str x)) τ m = outS (evalE GC C (.str x) τ m) τ fun r m1 => .ret r m1 := run_retE rfl
@[simp] theorem ret_bl (b : Bool) : runS GC C (.ret (.bl b)) τ m = outS (evalE GC C (.bl b) τ m) τ fun r m1 => .ret r m1 := run_retE rfl
@[simp] theorem ret_non  : runS GC C (.ret (.non )) τ m = outS (evalE GC C (.non ) τ m) τ fun r m1 => .ret r m1 := run_retE rfl
@[simp] theorem ret_neg (n : Nat) : runS GC C (.ret (.neg n)) τ m = outS (evalE GC C (.neg n) τ m) τ fun r m1 => .ret r m1 := run_retE rfl
@[simp] theorem ret_tup (es : MEs) : runS GC C (.ret (.tup es)) τ m = outS (evalE GC C (.tup es) τ m) τ fun r m1 => .ret r m1 := run_retE rfl
@[simp] theorem ret_lst (es : MEs) : runS GC C (.ret (.lst es)) τ m = outS (evalE GC C (.lst es) τ m) τ fun r m1 => .ret r m1 := run_retE rfl
@[simp] theorem ret_bin (op : BOp) (a b : ME) : runS GC C (.ret (.bin op a b)) τ m = outS (evalE GC C (.bin op a b) τ m) τ fun r m1 => .ret r m1 := run_retE rfl
@[simp] theorem ret_cmp (op : COp) (a b : ME) : runS GC C (.ret (.cmp op a b)) τ m = outS (evalE GC C (.cmp op a b) τ m) τ fun r m1 => .ret r m1 := run_retE rfl
@[simp] theorem ret_chain (o1 o2 : COp) (a b c : ME) : runS GC C (.ret (.chain o1 o2 a b c)) τ m = outS (evalE GC C (.chain o1 o2 a b c) τ m) τ fun r m1 => .ret r m1 := run_retE rfl
@[simp] theorem ret_not (a : ME) : runS GC C (.ret (.not a)) τ m = outS (evalE GC C (.not a) τ m) τ fun r m1 => .ret r m1 := run_retE rfl
@[simp] theorem ret_and (a b : ME) : runS GC C (.ret (.and a b)) τ m = outS (evalE GC C (.and a b) τ m) τ fun r m1 => .ret r m1 := run_retE rfl
@[simp] theorem ret_or (a b : ME) : runS GC C (.ret (.or a b)) τ m = outS (evalE GC C (.or a b) τ m) τ fun r m1 => .ret r m1 := run_retE rfl
@[simp] theorem ret_one (a : ME) : runS GC C (.ret (.one a)) τ m = outS (evalE GC C (.one a) τ m) τ fun r m1 => .ret r m1 := run_retE rfl
@[simp] theorem ret_ife (a b c : ME) : runS GC C (.ret (.ife a b c)) τ m = outS (evalE GC C (.ife a b c) τ m) τ fun r m1 => .ret r m1 := run_retE rfl
@[simp] theorem ret_idx (a b : ME) : runS GC C (.ret (.idx a b)) τ m = outS (evalE GC C (.idx a b) τ m) τ fun r m1 => .ret r m1 := run_retE rfl
@[simp] theorem ret_slc (a : ME) (b c : MEs) : runS GC C (.ret (.slc a b c)) τ m = outS (evalE GC C (.slc a b c) τ m) τ fun r m1 => .ret r m1 := run_retE rfl
@[simp] theorem ret_call (f : String) (es : MEs) : runS GC C (.ret (.call f es)) τ m = outS (evalE GC C (.call f es) τ m) τ fun r m1 => .ret r m1 := run_retE rfl
@[simp] theorem ret_blt (f : BF) (a : ME) : runS GC C (.ret (.blt f a)) τ m = outS (evalE GC C (.blt f a) τ m) τ fun r m1 => .ret r m1 := run_retE rfl
@[simp] theorem ret_sset (a : ME) : runS GC C (.ret (.sset a)) τ m = outS (evalE GC C (.sset a) τ m) τ fun r m1 => .ret r m1 := run_retE rfl
@[simp] theorem ret_mx (a b : ME) : runS GC C (.ret (.mx a b)) τ m = outS (evalE GC C (.mx a b) τ m) τ fun r m1 => .ret r m1 := run_retE rfl
@[simp] theorem ret_isi (a : ME) (t : IT) : runS GC C (.ret (.isi a t)) τ m = outS (evalE GC C (.isi a t) τ m) τ fun r m1 => .ret r m1 := run_retE rfl
@[simp] theorem ret_lc (e : ME) (tg : Tgt) (it : MI) (cond : MEs) (own : List (String × Nat)) : runS GC C (.ret (.lc e tg it cond own)) τ m = outS (evalE GC C (.lc e tg it cond own) τ m) τ fun r m1 => .ret r m1 := run_retE rfl
@[simp] theorem ret_alloc (a : ME) : runS GC C (.ret (.alloc a)) τ m = outS (evalE GC C (.alloc a) τ m) τ fun r m1 => .ret r m1 := run_retE rfl
@[simp] theorem ev_fld (c : String) (a : ME) (f : String) : evalE GC C (.fld c a f) τ m = (toV (evalE GC C a τ m)).bind fun x m1 => (opt (fldEv m1 c f x) m1).bind fun d m2 => .ok (.val d) m2 := rfl
@[simp] theorem ev_meth (o : ME) (c mt key : String) (es : MEs) : evalE GC C (.meth o c mt key es) τ m = (toV (evalE GC C o τ m)).bind fun x m1 => (opt (instOf m1 c mt x) m1).bind fun _ m2 => (evalEs GC C es τ m2).bind fun ds m3 => C key (x :: ds) m3 := rfl
@[simp] theorem ev_make (c : String) (es : MEs) : evalE GC C (.make c es) τ m = (evalEs GC C es τ m).bind fun ds m1 => C c ds m1 := rfl
@[simp] theorem pk_fld (c : String) (a : ME) (f : String) (r : Out Rv) : pk (.fld c a f) τ m r = toV r := rfl
@[simp] theorem pk_meth (o : ME) (c mt key : String) (es : MEs) (r : Out Rv) : pk (.meth o c mt key es) τ m r = toV r := rfl
@[simp] theorem pk_make (c : String) (es : MEs) (r : Out Rv) : pk (.make c es) τ m r = toV r := rfl
@[simp] theorem ret_fld (c : String) (a : ME) (f : String) : runS GC C (.ret (.fld c a f)) τ m = outS (evalE GC C (.fld c a f) τ m) τ fun r m1 => .ret r m1 := run_retE rfl
@[simp] theorem ret_meth (o : ME) (c mt key : String) (es : MEs) : runS GC C (.ret (.meth o c mt key es)) τ m = outS (evalE GC C (.meth o c mt key es) τ m) τ fun r m1 => .ret r m1 := run_retE rfl
@[simp] theorem ret_make (c : String) (es : MEs) : runS GC C (.ret (.make c es)) τ m = outS (evalE GC C (.make c es) τ m) τ fun r m1 => .ret r m1 := run_retE rfl
@[simp] theorem run_setFld (c : String) (o : Nat) (f : String) (e : ME) : runS GC C (.setFld c o f e) τ m = outS (evalE GC C e τ m) τ fun r m1 => outS (opt (slotVal τ[o]?) m1) τ fun x m2 => outS (opt (fldPut m2 c f r.slot x) m2) τ fun m3 _ => .nx τ m3 := rfl
@[simp] theorem run_aug (i : Nat) (op : BOp) (e : ME) : runS GC C (.aug i op e) τ m = outS (opt (slotVal τ[i]?) m) τ fun x m0 => outS (evalV GC C e τ m0) τ fun y m1 => outS (opt (augEv op x y) m1) τ fun z m2 => .nx (τ.set i (some (.val z))) m2 := rfl
@[simp] theorem run_augFld (c : String) (o : Nat) (f : String) (op : BOp) (e : ME) : runS GC C (.augFld c o f op e) τ m = outS (opt (slotVal τ[o]?) m) τ fun x m0 => outS (opt (fldEv m0 c f x) m0) τ fun d m1 => outS (evalV GC C e τ m1) τ fun y m2 => outS (opt (augEv op d y) m2) τ fun z m3 => outS (opt (fldPut m3 c f (.val z) x) m3) τ fun m4 _ => .nx τ m4 := rfl
@[simp] theorem ev_kget (x : String) (a : ME) : evalE GC C (.kget x a) τ m = (toV (evalE GC C a τ m)).bind fun k m1 => (opt (tabGet (GC.tab x) k) m1).bind fun d m2 => .ok (.val d) m2 := rfl
@[simp] theorem ev_kin (neg : Bool) (x : String) (a : ME) : evalE GC C (.kin neg x a) τ m = (toV (evalE GC C a τ m)).bind fun k m1 => (opt (tabIn neg (GC.tab x) k) m1).bind fun b m2 => .ok (.val (.bl b)) m2 := rfl
@[simp] theorem ev_dct (es : MEs) : evalE GC C (.dct es) τ m = (evalEs GC C es τ m).bind fun ds m1 => (opt (dictOf ds) m1).bind fun kvs m2 => .ok (.own (.dict kvs)) m2 := rfl
@[simp] theorem ev_srt (a : ME) : evalE GC C (.srt a) τ m = (pk a τ m (evalE GC C a τ m)).bind fun x m1 => opt (srtEv (deref m1 x)) m1 := rfl
@[simp] theorem pk_kget (x : String) (a : ME) (r : Out Rv) : pk (.kget x a) τ m r = toV r := rfl
@[simp] theorem pk_kin (b : Bool) (x : String) (a : ME) (r : Out Rv) : pk (.kin b x a) τ m r = toV r := rfl
@[simp] theorem pk_dct (es : MEs) (r : Out Rv) : pk (.dct es) τ m r = toV r := rfl
@[simp] theorem pk_srt (a : ME) (r : Out Rv) : pk (.srt a) τ m r = toV r := rfl
@[simp] theorem ret_kget (x : String) (a : ME) : runS GC C (.ret (.kget x a)) τ m = outS (evalE GC C (.kget x a) τ m) τ fun r m1 => .ret r m1 := run_retE rfl
@[simp] theorem ret_kin (b : Bool) (x : String) (a : ME) : runS GC C (.ret (.kin b x a)) τ m = outS (evalE GC C (.kin b x a) τ m) τ fun r m1 => .ret r m1 := run_retE rfl
@[simp] theorem ret_dct (es : MEs) : runS GC C (.ret (.dct es)) τ m = outS (evalE GC C (.dct es) τ m) τ fun r m1 => .ret r m1 := run_retE rfl
@[simp] theorem ret_srt (a : ME) : runS GC C (.ret (.srt a)) τ m = outS (evalE GC C (.srt a) τ m) τ fun r m1 => .ret r m1 := run_retE rfl
@[simp] theorem tabGet_str (kvs : List (String × D)) (s : String) : tabGet (some kvs) (.str s) = kvs.lookup s := rfl
@[simp] theorem tabIn_f (kvs : List (String × D)) (s : String) : tabIn false (some kvs) (.str s) = some (kvs.lookup s).isSome := rfl
@[simp] theorem tabIn_t (kvs : List (String × D)) (s : String) : tabIn true (some kvs) (.str s) = some (!(kvs.lookup s).isSome) := rfl
@[simp] theorem deref_fd (kvs : List (D × D)) : deref m (.fd kvs) = .fd kvs := rfl
@[simp] theorem toD_dict (kvs : List (D × D)) : (Ct.dict kvs).toD = .fd kvs := rfl
theorem idx_fd (kvs : List (D × D)) (k : D) : idxEv (.fd kvs) k = if isKey k then lookK kvs k else none := by cases k <;> rfl
@[simp] theorem slotVal_val (d : D) : slotVal (some (some (.val d))) = some d := rfl
@[simp] theorem run_nil : runSs GC C .nil τ m = .nx τ m := rfl
theorem run_cons (s : MS) (ss : MSs) : runSs GC C (.cons s ss) τ m = (runS GC C s τ m).andThen fun τ1 m1 => runSs GC C ss τ1 m1 := rfl
end
theorem callN_make {G : GE} {c key : String} (h1 : G.fns.lookup c = none) (h2 : G.makes.lookup c = some key) (n : Nat) (ds : List D) (m : Mem) : callN G (n + 1) c ds m = (callN G n key (.loc m.length :: ds) (m ++ [.inst c []])).bind fun r m2 => (match r with
        | .val .non => .ok (.val (.loc m.length)) m2
        | _ => .stuck) := by
  rw [callN, h1]
  simp only
  first
    | (rw [h2]; done)
    | (rw [h2]; rfl)
theorem lim_eq : lim = 1000000 := rfl
/-- a kind -/
inductive Kd where
  | any | int | bool | fn (a b : Kd) | pr (a b : Kd)
  deriving DecidableEq
def Kd.d : Kd → D
  | .any => .tup [.str "any"]
  | .int => .tup [.str "int"]
  | .bool => .tup [.str "bool"]
  | .fn a b => .tup [.str "fun", a.d, b.d]
  | .pr a b => .tup [.str "pair", a.d, b.d]
def Kd.dep : Kd → Nat
  | .any => 0
  | .int => 0
  | .bool => 0
  | .fn a b => max a.dep b.dep + 1
  | .pr a b => max a.dep b.dep + 1
@[simp] theorem dep_fn (a b : Kd) (n : Nat) : (Kd.fn a b).dep < n + 1 ↔ a.dep < n ∧ b.dep < n := by
  simp only [Kd.dep]; omega
@[simp] theorem dep_pr (a b : Kd) (n : Nat) : (Kd.pr a b).dep < n + 1 ↔ a.dep < n ∧ b.dep < n := by
  simp only [Kd.dep]; omega
theorem Kd.data : ∀ k : Kd, k.d.isData = true
  | .any => rfl
  | .int => rfl
  | .bool => rfl
  | .fn a b => by simp [Kd.d, D.isData, D.areData, a.data, b.data]
  | .pr a b => by simp [Kd.d, D.isData, D.areData, a.data, b.data]
def Kd.isAny : Kd → Bool
  | .any => true
  | _ => false
theorem eqD_any (k : Kd) : eqD k.d (.tup [.str "any"]) = some k.isAny := by
  unfold eqD
  rw [k.data]
  have h : (D.tup [.str "any"]).isData = true := rfl
  have h2 : (D.tup [.str "any"]).shal deepest = true := rfl
  rw [h, h2, Bool.or_true]
  cases k <;> simp [Kd.d, D.eqv, D.eqvs, Kd.isAny]
@[simp] theorem eqD_t1 (x y : String) : eqD (.tup [.str x]) (.tup [.str y]) = some (x == y) := by
  unfold eqD
  have h1 : (D.tup [.str x]).isData = true := rfl
  have h2 : (D.tup [.str y]).isData = true := rfl
  have h3 : (D.tup [.str y]).shal deepest = true := rfl
  rw [h1, h2, h3, Bool.or_true]
  simp [D.eqv, D.eqvs]
@[simp] theorem eqD_t31 (x y : String) (a b : Kd) : eqD (.tup [.str x, a.d, b.d]) (.tup [.str y]) = some false := by
  unfold eqD
  have h1 : (D.tup [.str x, a.d, b.d]).isData = true := by simp [D.isData, D.areData, a.data, b.data]
  have h2 : (D.tup [.str y]).isData = true := rfl
  have h3 : (D.tup [.str y]).shal deepest = true := rfl
  rw [h1, h2, h3, Bool.or_true]
  simp [D.eqv, D.eqvs]
@[simp] theorem eqD_str (x y : String) : eqD (.str x) (.str y) = some (x == y) := by
  unfold eqD
  rfl
def Kd.head : Kd → String
  | .any => "any"
  | .int => "int"
  | .bool => "bool"
  | .fn _ _ => "fun"
  | .pr _ _ => "pair"
def Kd.subs : Kd → List Kd
  | .fn a b => [a, b]
  | .pr a b => [a, b]
  | _ => []
theorem Kd.d_eq (k : Kd) : k.d = .tup (.str k.head :: k.subs.map Kd.d) := by cases k <;> rfl
end P3
set_option Elab.async false
set_option linter.all false
set_option maxRecDepth 100000
set_option maxHeartbeats 0
/-! P4B: kinds -/
namespace P3
open PySem L2
def agree : Kd → Kd → Bool
  | .any, _ => true
  | _, .any => true
  | .int, .int => true
  | .bool, .bool => true
  | .fn a b, .fn c d => agree a c && agree b d
  | .pr a b, .pr c d => agree a c && agree b d
  | _, _ => false
/-- tells less -/
def lesst : Kd → Kd → Bool
  | .any, _ => true
  | .int, .int => true
  | .bool, .bool => true
  | .fn a b, .fn c d => lesst a c && lesst b d
  | .pr a b, .pr c d => lesst a c && lesst b d
  | _, _ => false
def meet : Kd → Kd → Kd
  | .any, b => b
  | a, .any => a
  | .int, _ => .int
  | .bool, _ => .bool
  | .fn a b, .fn c d => .fn (meet a c) (meet b d)
  | .pr a b, .pr c d => .pr (meet a c) (meet b d)
  | a, _ => a
def shared : Kd → Kd → Kd
  | .int, .int => .int
  | .bool, .bool => .bool
  | .fn a b, .fn c d => .fn (shared a c) (shared b d)
  | .pr a b, .pr c d => .pr (shared a c) (shared b d)
  | _, _ => .any
/-- the module's constant -/
structure HasAny (G : GE) : Prop where
  any : G.consts.lookup "ANY" = some (.tup [.str "any"])
section
variable {G : GE}
theorem agree_eq (hf : G.fns.lookup "agree" = some F_agree) (hc : HasAny G) : ∀ (n : Nat) (a b : Kd) (m : Mem), a.dep < n → callN G n "agree" [a.d, b.d] m = .ok (.val (.bl (agree a b))) m
  | 0, _, _, _, h => by omega
  | n + 1, a, b, m, h => by
    have ih := agree_eq hf hc n
    rw [callN_eq hf rfl]
    cases a <;> cases b <;> (try simp only [dep_fn, dep_pr] at h) <;>
      simp [F_agree, startT, run_cons, hc.any, Kd.d, lim_eq, lc_cons, agree, List.replicate, ih, h]
theorem lesst_eq (hf : G.fns.lookup "is_less_typed" = some F_is_less_typed) (hc : HasAny G) : ∀ (n : Nat) (a b : Kd) (m : Mem), a.dep < n → callN G n "is_less_typed" [a.d, b.d] m = .ok (.val (.bl (lesst a b))) m
  | 0, _, _, _, h => by omega
  | n + 1, a, b, m, h => by
    have ih := lesst_eq hf hc n
    rw [callN_eq hf rfl]
    cases a <;> cases b <;> (try simp only [dep_fn, dep_pr] at h) <;>
      simp [F_is_less_typed, startT, run_cons, hc.any, Kd.d, lim_eq, lc_cons, lesst, List.replicate, ih, h]
theorem shared_eq (hf : G.fns.lookup "shared" = some F_shared) (hc : HasAny G) : ∀ (n : Nat) (a b : Kd) (m : Mem), a.dep < n → callN G n "shared" [a.d, b.d] m = .ok (.val (shared a b).d) m
  | 0, _, _, _, h => by omega
  | n + 1, a, b, m, h => by
    have ih := shared_eq hf hc n
    rw [callN_eq hf rfl]
    cases a <;> cases b <;> (try simp only [dep_fn, dep_pr] at h) <;>
      simp [F_shared, startT, run_cons, hc.any, Kd.d, lim_eq, lc_cons, shared, List.replicate, ih, h]
theorem meet_eq (hf : G.fns.lookup "meet" = some F_meet) (hg : G.fns.lookup "agree" = some F_agree) (hc : HasAny G) : ∀ (n : Nat) (a b : Kd) (m : Mem), a.dep + 1 < n → callN G n "meet" [a.d, b.d] m = .ok (.val (if agree a b then (meet a b).d else .non)) m
  | 0, _, _, _, h => by omega
  | n + 1, a, b, m, h => by
    have ih := meet_eq hf hg hc n
    have hh : a.dep < n := by omega
    have ag := agree_eq hg hc n a b m hh
    rw [callN_eq hf rfl]
    cases hA : agree a b with
    | false => rw [hA] at ag; simp [F_meet, startT, run_cons, List.replicate, ag]
    | true =>
      rw [hA] at ag
      have e2 : (Kd.any.d) = .tup [.str "any"] := rfl
      cases a <;> cases b <;> simp only [agree, Bool.and_eq_true, Bool.false_eq_true] at hA <;> (try simp only [Kd.dep] at h) <;> simp only [Kd.d] at ag ⊢ <;>
        simp [F_meet, startT, run_cons, hc.any, lim_eq, lc_cons, meet, List.replicate, ag, Kd.d]
      · rename_i a b c d
        simp [ih a c m (by omega), ih b d m (by omega), hA.1, hA.2, lim_eq]
      · rename_i a b c d
        simp [ih a c m (by omega), ih b d m (by omega), hA.1, hA.2, lim_eq]
end
end P3
set_option Elab.async false
set_option linter.all false
set_option maxRecDepth 100000
set_option maxHeartbeats 0
/-! P4C: draws -/
namespace P3
open PySem L2
/-- what the law draws from -/
structure Pool where
  ns : List Int
  i : Int
  b : Int
  c : Int
  s : Int
  M : Mem
def Pool.l (p : Pool) : List D := [.fl (p.ns.map .int), .int p.i, .int p.b, .int p.c, .int p.s]
def Pool.m (p : Pool) : Mem := .ct (.lst p.l) :: p.M
structure Pool.Ok (p : Pool) : Prop where
  i : 0 ≤ p.i
  n : p.ns.length ≤ 63
/-! ### words -/
section
variable {GC : Cons} {C : Call} {τ : Tau} {m : Mem} {α β : Type}
theorem mul_r {i j : Int} (h : small j = true) : binEv .mul (.int i) (.int j) = some (.val (.int (i * j))) := by
  show (if (small i || small j) = true then _ else _) = _
  rw [h, Bool.or_true, if_pos rfl]
theorem mod_p {i j : Int} (h : 0 < j) : binEv .mod (.int i) (.int j) = some (.val (.int (i % j))) := by
  show (if decide (0 < j) = true then _ else _) = _
  rw [if_pos (by simpa using h)]
theorem fdiv_p {i j : Int} (h : 0 < j) (h2 : j < 1073741824) : binEv .fdiv (.int i) (.int j) = some (.val (.int (i / j))) := by
  show (if (decide (0 < j) && decide (j < 1073741824)) = true then _ else _) = _
  rw [if_pos (by simp [h, h2])]
@[simp] theorem mul_31 (i : Int) : binEv .mul (.int i) (.int 31) = some (.val (.int (i * 31))) := mul_r (by decide)
@[simp] theorem mul_48271 (i : Int) : binEv .mul (.int i) (.int 48271) = some (.val (.int (i * 48271))) := mul_r (by decide)
@[simp] theorem mul_69621 (i : Int) : binEv .mul (.int i) (.int 69621) = some (.val (.int (i * 69621))) := mul_r (by decide)
@[simp] theorem mul_16807 (i : Int) : binEv .mul (.int i) (.int 16807) = some (.val (.int (i * 16807))) := mul_r (by decide)
@[simp] theorem mul_big (i : Int) : binEv .mul (.int i) (.int 2147483647) = some (.val (.int (i * 2147483647))) := mul_r (by decide)
@[simp] theorem mod_1000003 (i : Int) : binEv .mod (.int i) (.int 1000003) = some (.val (.int (i % 1000003))) := mod_p (by decide)
@[simp] theorem mod_big (i : Int) : binEv .mod (.int i) (.int 2147483647) = some (.val (.int (i % 2147483647))) := mod_p (by decide)
@[simp] theorem mod_big2 (i : Int) : binEv .mod (.int i) (.int 2147483629) = some (.val (.int (i % 2147483629))) := mod_p (by decide)
@[simp] theorem fdiv_5 (i : Int) : binEv .fdiv (.int i) (.int 5) = some (.val (.int (i / 5))) := fdiv_p (by decide) (by decide)
@[simp] theorem run_setIdx (a i e : ME) : runS GC C (.setIdx a i e) τ m = outS (evalV GC C e τ m) τ fun d m1 => outS (pk a τ m1 (evalE GC C a τ m1)) τ fun x m2 => outS (evalV GC C i τ m2) τ fun y m3 => putS (a.own? τ) τ m3 x (putAt · y d) := rfl
@[simp] theorem putS_none (x : D) (f : Ct → Option Ct) : putS none τ m x f = (match ctAt m x with
    | some (l, c) => (match f c with
      | some c' => .nx τ (m.set l (.ct c'))
      | none => .stuck)
    | none => .stuck) := rfl
@[simp] theorem ctAt_0 (c : Ct) (m : Mem) : ctAt (.ct c :: m) (.loc 0) = some (0, c) := rfl
@[simp] theorem deref_0 (c : Ct) (m : Mem) : deref (.ct c :: m) (.loc 0) = c.toD := rfl
theorem putAt_lst (ds : List D) (i : Int) (d : D) : putAt (.lst ds) (.int i) d = (placeOf ds.length i).map fun j => .lst (ds.set j d) := rfl
@[simp] theorem put_1 (a b c d e x : D) : putAt (.lst [a, b, c, d, e]) (.int 1) x = some (.lst [a, x, c, d, e]) := rfl
@[simp] theorem put_2 (a b c d e x : D) : putAt (.lst [a, b, c, d, e]) (.int 2) x = some (.lst [a, b, x, d, e]) := rfl
@[simp] theorem put_3 (a b c d e x : D) : putAt (.lst [a, b, c, d, e]) (.int 3) x = some (.lst [a, b, c, x, e]) := rfl
@[simp] theorem run_for (tg : Tgt) (it : MI) (body : MSs) : runS GC C (.for_ tg it body) τ m = outS (evalI GC C it τ m) τ fun xs m1 => forEv (tgEv tg) (fun τ m => runSs GC C body τ m) xs τ m1 := rfl
@[simp] theorem for_nil (asg : D → Tau → Option Tau) (body : Tau → Mem → SOut) : forEv asg body [] τ m = .nx τ m := rfl
theorem for_cons (asg : D → Tau → Option Tau) (body : Tau → Mem → SOut) (x : D) (xs : List D) : forEv asg body (x :: xs) τ m = (match asg x τ with
    | none => .stuck
    | some τ' => (match body τ' m with
      | .nx τ1 m1 => forEv asg body xs τ1 m1
      | .ct τ1 m1 => forEv asg body xs τ1 m1
      | .bk τ1 m1 => .nx τ1 m1
      | r => r)) := rfl
theorem at_map {ns : List Int} {i : Int} (h : 0 ≤ i) (h2 : i < ns.length) : D.at (ns.map .int) i = some (.int (ns.getD i.toNat 0)) := by
  unfold D.at placeOf
  rw [if_pos h, if_pos (by rw [List.length_map]; exact h2)]
  have hl : i.toNat < ns.length := by omega
  simp [List.getD, hl]
theorem rangeOf_4 : rangeOf 0 4 = [.int 0, .int 1, .int 2, .int 3] := rfl
end
/-! ### the drawing functions -/
def spreadZ (cell : Int) : Int :=
  let m0 := cell % 2147483647
  let m1 := (m0 * 48271 + 12345 + 0) % 2147483647
  let t1 := 1 * 2147483647 + m1
  let m2 := (m1 * 48271 + 12345 + 1) % 2147483647
  let t2 := t1 * 2147483647 + m2
  let m3 := (m2 * 48271 + 12345 + 2) % 2147483647
  let t3 := t2 * 2147483647 + m3
  let m4 := (m3 * 48271 + 12345 + 3) % 2147483647
  t3 * 2147483647 + m4
/-- the pool with a fresh cell if it has run dry -/
def Pool.fill (p : Pool) : Pool := if p.b ≤ 0 ∧ p.i < p.ns.length then
    (if p.ns.getD p.i.toNat 0 < 1000000000000000000 then { p with i := p.i + 1, b := spreadZ (p.ns.getD p.i.toNat 0) } else { p with i := p.i + 1, b := p.ns.getD p.i.toNat 0 })
  else p
def Pool.draw (p : Pool) (n : Int) : Int × Pool :=
  let q := p.fill
  let q := { q with c := q.c + 1 }
  if q.b ≤ 0 then ((((q.s * 48271 + q.c * 69621 + 1) % 2147483647 * 16807 + q.c) % 2147483629) / 5 % n, q)
  else (q.b % n, { q with b := q.b / n })
structure HasDraw (G : GE) : Prop where
  spread : G.fns.lookup "_law_spread" = some F__law_spread
  draw : G.fns.lookup "_law_draw" = some F__law_draw
  pick : G.fns.lookup "_law_pick" = some F__law_pick
  pool : G.fns.lookup "_law_pool" = some F__law_pool
section
variable {G : GE}
theorem spread_eq (hf : HasDraw G) (n : Nat) (cell : Int) (m : Mem) : callN G (n + 1) "_law_spread" [.int cell] m = .ok (.val (.int (spreadZ cell))) m := by
  rw [callN_eq hf.spread rfl]
  simp [F__law_spread, startT, run_cons, List.replicate, midInt, rangeOf_4, for_cons, spreadZ]
theorem fill_ok {p : Pool} (h : p.Ok) : p.fill.Ok := by
  unfold Pool.fill
  have h1 := h.i
  split
  · split <;> exact ⟨by simp only; omega, h.n⟩
  · exact h
theorem draw_ok {p : Pool} (h : p.Ok) (n : Int) : (p.draw n).2.Ok := by
  unfold Pool.draw
  have h1 := fill_ok h
  simp only
  split <;> exact ⟨h1.i, h1.n⟩
theorem draw_lt {p : Pool} {n : Int} (h : 0 < n) : 0 ≤ (p.draw n).1 ∧ (p.draw n).1 < n := by
  unfold Pool.draw
  simp only
  split <;> exact ⟨Int.emod_nonneg _ (by omega), Int.emod_lt_of_pos _ h⟩
theorem draw_eq (hf : HasDraw G) (n : Nat) {p : Pool} (hp : p.Ok) {k : Int} (h1 : 0 < k) (h2 : k < 1073741824) : callN G (n + 2) "_law_draw" [.loc 0, .int k] p.m = .ok (.val (.int (p.draw k).1)) (p.draw k).2.m := by
  rw [callN_eq hf.draw rfl]
  have hs := spread_eq hf n
  have hi := hp.i
  have hn := hp.n
  have a0 := @at_map p.ns p.i hi
  have e1 : ∀ i, binEv .mod (.int i) (.int k) = some (.val (.int (i % k))) := fun i => mod_p h1
  have e2 : ∀ i, binEv .fdiv (.int i) (.int k) = some (.val (.int (i / k))) := fun i => fdiv_p h1 h2
  have hlen : p.ns.length ≤ 1000000 := by omega
  unfold Pool.draw Pool.fill
  by_cases c1 : p.b ≤ 0
  · by_cases c2 : p.i < p.ns.length
    · have a1 := a0 c2
      generalize p.ns.getD p.i.toNat 0 = cell at a1 ⊢
      simp only [c1, c2, and_self, if_true]
      by_cases c3 : cell < 1000000000000000000
      · simp only [c3, if_true]
        by_cases c4 : spreadZ cell ≤ 0
        · simp [F__law_draw, startT, run_cons, List.replicate, Pool.m, Pool.l, lim_eq, c1, c2, c3, c4, a1, hs, e1, e2, hlen]
        · simp [F__law_draw, startT, run_cons, List.replicate, Pool.m, Pool.l, lim_eq, c1, c2, c3, c4, a1, hs, e1, e2, hlen]
      · simp only [c3, if_false]
        have c4 : ¬ cell ≤ 0 := by omega
        simp [F__law_draw, startT, run_cons, List.replicate, Pool.m, Pool.l, lim_eq, c1, c2, c3, c4, a1, hs, e1, e2, hlen]
    · simp [F__law_draw, startT, run_cons, List.replicate, Pool.m, Pool.l, lim_eq, c1, c2, hs, e1, e2, hlen]
  · simp [F__law_draw, startT, run_cons, List.replicate, Pool.m, Pool.l, lim_eq, c1, hs, e1, e2, hlen]
end
end P3
set_option Elab.async false
set_option linter.all false
set_option maxRecDepth 100000
set_option maxHeartbeats 0
/-! P4D: drawn kinds -/
namespace P3
open PySem L2
section
variable {G : GE}
theorem draw_at (hf : HasDraw G) {n : Nat} (hn : 2 ≤ n) {p : Pool} (hp : p.Ok) {k : Int} (h1 : 0 < k) (h2 : k < 1073741824) : callN G n "_law_draw" [.loc 0, .int k] p.m = .ok (.val (.int (p.draw k).1)) (p.draw k).2.m := by
  obtain ⟨j, rfl⟩ := Nat.exists_eq_add_of_le hn
  rw [Nat.add_comm]
  exact draw_eq hf j hp h1 h2
theorem at_nat {ds : List D} {v : Int} (h : 0 ≤ v) (h2 : v < ds.length) : D.at ds v = some (ds.getD v.toNat .non) := by
  unfold D.at placeOf
  rw [if_pos h, if_pos h2]
  have hl : v.toNat < ds.length := by omega
  simp [List.getD, hl]
theorem pick_at (hf : HasDraw G) {n : Nat} (hn : 3 ≤ n) {p : Pool} (hp : p.Ok) {ds : List D} (h1 : 0 < ds.length) (h2 : ds.length ≤ 1000) : callN G n "_law_pick" [.loc 0, .fl ds] p.m = .ok (.val (ds.getD (p.draw ds.length).1.toNat .non)) (p.draw ds.length).2.m := by
  obtain ⟨j, rfl⟩ : ∃ j, n = j + 1 := ⟨n - 1, by omega⟩
  rw [callN_eq hf.pick rfl]
  have hd := draw_at hf (n := j) (by omega) hp (k := (ds.length : Int)) (by omega) (by omega)
  have hv := draw_lt (p := p) (n := (ds.length : Int)) (by omega)
  have ha := at_nat (ds := ds) hv.1 hv.2
  have hl : ds.length ≤ 1000000 := by omega
  simp [F__law_pick, startT, run_cons, List.replicate, lim_eq, hd, hl, ha]
theorem pool_for {GC : Cons} {C : Call} {x : Option Slot} {m : Mem} : ∀ (ns : List Int) (s : Int) (y : Option Slot), ∃ (s' : Int) (y' : Option Slot), forEv (tgEv (.name 2)) (fun τ m => runSs GC C (.cons (.set 1 (.bin .mod (.blt .int (.bin .add (.bin .mul (.var 1) (.int 31)) (.var 2))) (.int 1000003)))
 .nil) τ m) (ns.map .int) [x, some (.val (.int s)), y] m = .nx [x, some (.val (.int s')), y'] m
  | [], s, y => ⟨s, y, rfl⟩
  | c :: ns, s, y => by
    obtain ⟨s', y', h⟩ := pool_for (GC := GC) (C := C) (x := x) (m := m) ns ((s * 31 + c) % 1000003) (some (.val (.int c)))
    refine ⟨s', y', ?_⟩
    rw [← h]
    simp [for_cons, run_cons]
theorem pool_at (hf : HasDraw G) {n : Nat} (hn : 1 ≤ n) (ns : List Int) (hl : ns.length ≤ 63) (m : Mem) : ∃ s : Int, callN G n "_law_pool" [.fl (ns.map .int)] m = .ok (.own (.lst (Pool.l ⟨ns, 0, 0, 0, s, []⟩))) m := by
  obtain ⟨j, rfl⟩ : ∃ j, n = j + 1 := ⟨n - 1, by omega⟩
  rw [callN_eq hf.pool rfl]
  have hc : cut (ns.map D.int) none (some 63) = ns.map D.int := by
    unfold cut cutAt
    simp only [List.length_map]
    rw [List.drop_zero, if_neg (by omega), List.take_of_length_le (by rw [List.length_map]; omega)]
  obtain ⟨s', y', h⟩ := pool_for (GC := G.consts) (C := callN G j) (x := some (.val (.fl (ns.map .int)))) (m := m) ns 7 none
  refine ⟨s', ?_⟩
  have hl2 : ns.length ≤ 1000000 := by omega
  simp [F__law_pool, startT, run_cons, List.replicate, lim_eq, hl2, hc, Pool.l]
  simp [run_cons] at h
  rw [h]
  simp [hl2]
def Pool.base (p : Pool) : Kd × Pool := (if (p.draw 4).1 ≤ 1 then .int else if (p.draw 4).1 = 2 then .bool else .any, (p.draw 4).2)
def Pool.kind : Nat → Pool → Kd × Pool
  | 0, p => p.base
  | d + 1, p => if (p.draw 9).1 < 4 then (p.draw 9).2.base else
      (if (((p.draw 9).2).draw 3).1 ≤ 1 then Kd.fn (Pool.kind d (((p.draw 9).2).draw 3).2).1 (Pool.kind d (Pool.kind d (((p.draw 9).2).draw 3).2).2).1 else Kd.pr (Pool.kind d (((p.draw 9).2).draw 3).2).1 (Pool.kind d (Pool.kind d (((p.draw 9).2).draw 3).2).2).1,
        (Pool.kind d (Pool.kind d (((p.draw 9).2).draw 3).2).2).2)
theorem base_dep (p : Pool) : p.base.1.dep = 0 := by
  unfold Pool.base
  simp only
  split
  · rfl
  · split <;> rfl
theorem kind_dep : ∀ (d : Nat) (p : Pool), (p.kind d).1.dep ≤ d
  | 0, p => by show p.base.1.dep ≤ 0; rw [base_dep]; exact Nat.le_refl _
  | d + 1, p => by
    unfold Pool.kind
    split
    · rw [base_dep]; omega
    · have h1 := kind_dep d (((p.draw 9).2).draw 3).2
      have h2 := kind_dep d (Pool.kind d (((p.draw 9).2).draw 3).2).2
      simp only
      split <;> simp only [Kd.dep] <;> omega
theorem base_ok {p : Pool} (h : p.Ok) : p.base.2.Ok := draw_ok h 4
theorem kind_ok : ∀ (d : Nat) {p : Pool}, p.Ok → (p.kind d).2.Ok
  | 0, p, h => base_ok h
  | d + 1, p, h => by
    unfold Pool.kind
    split
    · exact base_ok (draw_ok h 9)
    · exact kind_ok d (kind_ok d (draw_ok (draw_ok h 9) 3))
theorem pick_base {v : Int} (h : 0 ≤ v) (h2 : v < 4) : [D.str "int", .str "int", .str "bool", .str "any"].getD v.toNat .non = .str (if v ≤ 1 then Kd.int else if v = 2 then .bool else .any).head := by
  rcases (by omega : v = 0 ∨ v = 1 ∨ v = 2 ∨ v = 3) with rfl | rfl | rfl | rfl <;> rfl
theorem pick_two {v : Int} (h : 0 ≤ v) (h2 : v < 3) : [D.str "fun", .str "fun", .str "pair"].getD v.toNat .non = .str (if v ≤ 1 then "fun" else "pair") := by
  rcases (by omega : v = 0 ∨ v = 1 ∨ v = 2) with rfl | rfl | rfl <;> rfl
theorem base_d (p : Pool) : p.base.1.d = .tup [.str p.base.1.head] := by
  unfold Pool.base
  simp only
  split
  · rfl
  · split <;> rfl
@[simp] theorem eqD_int (i j : Int) : eqD (.int i) (.int j) = some (i == j) := rfl
theorem kind_at (hf : HasDraw G) (hk : G.fns.lookup "_law_kind" = some F__law_kind) : ∀ (d : Nat) {n : Nat} (hn : d + 4 ≤ n) {p : Pool} (hp : p.Ok), callN G n "_law_kind" [.loc 0, .int d] p.m = .ok (.val (p.kind d).1.d) (p.kind d).2.m
  | 0, n, hn, p, hp => by
    obtain ⟨j, rfl⟩ : ∃ j, n = j + 1 := ⟨n - 1, by omega⟩
    rw [callN_eq hk rfl]
    have hv := draw_lt (p := p) (n := 4) (by omega)
    have h1 := pick_at hf (n := j) (by omega) hp (ds := [D.str "int", .str "int", .str "bool", .str "any"]) (by simp) (by simp)
    have e4 : (([D.str "int", .str "int", .str "bool", .str "any"].length : Nat) : Int) = 4 := rfl
    rw [e4, pick_base hv.1 hv.2] at h1
    have hb := base_d p
    show _ = Out.ok (Rv.val p.base.1.d) p.base.2.m
    rw [hb]
    unfold Pool.base
    simp [F__law_kind, startT, run_cons, List.replicate, lim_eq, h1]
  | d + 1, n, hn, p, hp => by
    obtain ⟨j, rfl⟩ : ∃ j, n = j + 1 := ⟨n - 1, by omega⟩
    rw [callN_eq hk rfl]
    have h0 := draw_at hf (n := j) (by omega) hp (k := 9) (by omega) (by omega)
    have hne : (((d + 1 : Nat) : Int) == 0) = false := by simp; omega
    have hdd : ((d + 1 : Nat) : Int) - 1 = (d : Int) := by omega
    have hp1 := draw_ok hp 9
    unfold Pool.kind
    by_cases c : (p.draw 9).1 < 4
    · have hv := draw_lt (p := (p.draw 9).2) (n := 4) (by omega)
      have h1 := pick_at hf (n := j) (by omega) hp1 (ds := [D.str "int", .str "int", .str "bool", .str "any"]) (by simp) (by simp)
      have e4 : (([D.str "int", .str "int", .str "bool", .str "any"].length : Nat) : Int) = 4 := rfl
      rw [e4, pick_base hv.1 hv.2] at h1
      have hb := base_d (p.draw 9).2
      simp only [c, if_true]
      rw [hb]
      unfold Pool.base
      simp only [F__law_kind, startT, run_cons, List.replicate]
      generalize ((d + 1 : Nat) : Int) = dd at hne ⊢
      simp [run_cons, lim_eq, h0, h1, hne, c]
    · have hv := draw_lt (p := (p.draw 9).2) (n := 3) (by omega)
      have h1 := pick_at hf (n := j) (by omega) hp1 (ds := [D.str "fun", .str "fun", .str "pair"]) (by simp) (by simp)
      have e4 : (([D.str "fun", .str "fun", .str "pair"].length : Nat) : Int) = 3 := rfl
      rw [e4, pick_two hv.1 hv.2] at h1
      have hp2 := draw_ok hp1 3
      have k1 := kind_at hf hk d (n := j) (by omega) hp2
      have hp3 := kind_ok d hp2
      have k2 := kind_at hf hk d (n := j) (by omega) hp3
      simp only [c, if_false]
      simp only [F__law_kind, startT, run_cons, List.replicate]
      generalize ((d + 1 : Nat) : Int) = dd at hne hdd ⊢
      by_cases c2 : ((p.draw 9).2.draw 3).1 ≤ 1
      · simp [run_cons, lim_eq, h0, h1, hne, c, hdd, k1, k2, c2, Kd.d]
      · simp [run_cons, lim_eq, h0, h1, hne, c, hdd, k1, k2, c2, Kd.d]
end
end P3
set_option Elab.async false
set_option linter.all false
set_option maxRecDepth 100000
set_option maxHeartbeats 0
/-! P4E: looser kinds; the same data -/
namespace P3
open PySem L2
def Pool.loose : Kd → Pool → Kd × Pool
  | .any, p => (.any, (p.draw 4).2)
  | .int, p => (if (p.draw 4).1 = 0 then .any else .int, (p.draw 4).2)
  | .bool, p => (if (p.draw 4).1 = 0 then .any else .bool, (p.draw 4).2)
  | .fn a b, p => if (p.draw 4).1 = 0 then (.any, (p.draw 4).2) else (.fn (Pool.loose a (p.draw 4).2).1 (Pool.loose b (Pool.loose a (p.draw 4).2).2).1, (Pool.loose b (Pool.loose a (p.draw 4).2).2).2)
  | .pr a b, p => if (p.draw 4).1 = 0 then (.any, (p.draw 4).2) else (.pr (Pool.loose a (p.draw 4).2).1 (Pool.loose b (Pool.loose a (p.draw 4).2).2).1, (Pool.loose b (Pool.loose a (p.draw 4).2).2).2)
theorem loose_ok : ∀ (k : Kd) {p : Pool}, p.Ok → (Pool.loose k p).2.Ok
  | .any, p, h => draw_ok h 4
  | .int, p, h => draw_ok h 4
  | .bool, p, h => draw_ok h 4
  | .fn a b, p, h => by
    unfold Pool.loose
    split
    · exact draw_ok h 4
    · exact loose_ok b (loose_ok a (draw_ok h 4))
  | .pr a b, p, h => by
    unfold Pool.loose
    split
    · exact draw_ok h 4
    · exact loose_ok b (loose_ok a (draw_ok h 4))
theorem loose_dep : ∀ (k : Kd) (p : Pool), (Pool.loose k p).1.dep ≤ k.dep
  | .any, p => Nat.le_refl _
  | .int, p => by unfold Pool.loose; simp only; split <;> exact Nat.le_refl _
  | .bool, p => by unfold Pool.loose; simp only; split <;> exact Nat.le_refl _
  | .fn a b, p => by
    unfold Pool.loose
    split
    · exact Nat.zero_le _
    · have h1 := loose_dep a (p.draw 4).2
      have h2 := loose_dep b (Pool.loose a (p.draw 4).2).2
      simp only [Kd.dep]; omega
  | .pr a b, p => by
    unfold Pool.loose
    split
    · exact Nat.zero_le _
    · have h1 := loose_dep a (p.draw 4).2
      have h2 := loose_dep b (Pool.loose a (p.draw 4).2).2
      simp only [Kd.dep]; omega
section
variable {G : GE}
theorem loose_at (hf : HasDraw G) (hk : G.fns.lookup "_law_loose" = some F__law_loose) : ∀ (k : Kd) {n : Nat} (hn : k.dep + 3 ≤ n) {p : Pool} (hp : p.Ok), callN G n "_law_loose" [.loc 0, k.d] p.m = .ok (.val (Pool.loose k p).1.d) (Pool.loose k p).2.m := by
  intro k
  induction k with
  | any =>
    intro n hn p hp
    obtain ⟨j, rfl⟩ : ∃ j, n = j + 1 := ⟨n - 1, by omega⟩
    rw [callN_eq hk rfl]
    have h0 := draw_at hf (n := j) (by omega) hp (k := 4) (by omega) (by omega)
    unfold Pool.loose
    by_cases c : (p.draw 4).1 = 0 <;> simp [F__law_loose, startT, run_cons, List.replicate, lim_eq, h0, c, Kd.d]
  | int =>
    intro n hn p hp
    obtain ⟨j, rfl⟩ : ∃ j, n = j + 1 := ⟨n - 1, by omega⟩
    rw [callN_eq hk rfl]
    have h0 := draw_at hf (n := j) (by omega) hp (k := 4) (by omega) (by omega)
    unfold Pool.loose
    by_cases c : (p.draw 4).1 = 0 <;> simp [F__law_loose, startT, run_cons, List.replicate, lim_eq, h0, c, Kd.d]
  | bool =>
    intro n hn p hp
    obtain ⟨j, rfl⟩ : ∃ j, n = j + 1 := ⟨n - 1, by omega⟩
    rw [callN_eq hk rfl]
    have h0 := draw_at hf (n := j) (by omega) hp (k := 4) (by omega) (by omega)
    unfold Pool.loose
    by_cases c : (p.draw 4).1 = 0 <;> simp [F__law_loose, startT, run_cons, List.replicate, lim_eq, h0, c, Kd.d]
  | fn a b iha ihb =>
    intro n hn p hp
    obtain ⟨j, rfl⟩ : ∃ j, n = j + 1 := ⟨n - 1, by omega⟩
    rw [callN_eq hk rfl]
    simp only [Kd.dep] at hn
    have h0 := draw_at hf (n := j) (by omega) hp (k := 4) (by omega) (by omega)
    have hp1 := draw_ok hp 4
    have h1 := iha (n := j) (by omega) hp1
    have h2 := ihb (n := j) (by omega) (loose_ok a hp1)
    unfold Pool.loose
    by_cases c : (p.draw 4).1 = 0 <;> simp [F__law_loose, startT, run_cons, List.replicate, lim_eq, h0, h1, h2, c, Kd.d, lc_cons]
  | pr a b iha ihb =>
    intro n hn p hp
    obtain ⟨j, rfl⟩ : ∃ j, n = j + 1 := ⟨n - 1, by omega⟩
    rw [callN_eq hk rfl]
    simp only [Kd.dep] at hn
    have h0 := draw_at hf (n := j) (by omega) hp (k := 4) (by omega) (by omega)
    have hp1 := draw_ok hp 4
    have h1 := iha (n := j) (by omega) hp1
    have h2 := ihb (n := j) (by omega) (loose_ok a hp1)
    unfold Pool.loose
    by_cases c : (p.draw 4).1 = 0 <;> simp [F__law_loose, startT, run_cons, List.replicate, lim_eq, h0, h1, h2, c, Kd.d, lc_cons]
end
/-! ### the same data -/
@[simp] theorem isi_tuple_non  : isiEv .tuple .non = some false := rfl
@[simp] theorem isi_list_non  : isiEv .list .non = some false := rfl
@[simp] theorem isi_bool_non  : isiEv .bool .non = some false := rfl
@[simp] theorem isi_int_non  : isiEv .int .non = some false := rfl
@[simp] theorem isi_str_non  : isiEv .str .non = some false := rfl
@[simp] theorem isi_tuple_bl (b : Bool) : isiEv .tuple (.bl b) = some false := rfl
@[simp] theorem isi_list_bl (b : Bool) : isiEv .list (.bl b) = some false := rfl
@[simp] theorem isi_bool_bl (b : Bool) : isiEv .bool (.bl b) = some true := rfl
@[simp] theorem isi_int_bl (b : Bool) : isiEv .int (.bl b) = some true := rfl
@[simp] theorem isi_str_bl (b : Bool) : isiEv .str (.bl b) = some false := rfl
@[simp] theorem isi_tuple_int (i : Int) : isiEv .tuple (.int i) = some false := rfl
@[simp] theorem isi_list_int (i : Int) : isiEv .list (.int i) = some false := rfl
@[simp] theorem isi_bool_int (i : Int) : isiEv .bool (.int i) = some false := rfl
@[simp] theorem isi_int_int (i : Int) : isiEv .int (.int i) = some true := rfl
@[simp] theorem isi_str_int (i : Int) : isiEv .str (.int i) = some false := rfl
@[simp] theorem isi_tuple_str (s : String) : isiEv .tuple (.str s) = some false := rfl
@[simp] theorem isi_list_str (s : String) : isiEv .list (.str s) = some false := rfl
@[simp] theorem isi_bool_str (s : String) : isiEv .bool (.str s) = some false := rfl
@[simp] theorem isi_int_str (s : String) : isiEv .int (.str s) = some false := rfl
@[simp] theorem isi_str_str (s : String) : isiEv .str (.str s) = some true := rfl
@[simp] theorem isi_tuple_fl (ds : List D) : isiEv .tuple (.fl ds) = some false := rfl
@[simp] theorem isi_list_fl (ds : List D) : isiEv .list (.fl ds) = some true := rfl
@[simp] theorem isi_bool_fl (ds : List D) : isiEv .bool (.fl ds) = some false := rfl
@[simp] theorem isi_int_fl (ds : List D) : isiEv .int (.fl ds) = some false := rfl
@[simp] theorem isi_str_fl (ds : List D) : isiEv .str (.fl ds) = some false := rfl
@[simp] theorem isNon_bl (b : Bool) : D.isNon (.bl b) = false := rfl
@[simp] theorem isNon_int (i : Int) : D.isNon (.int i) = false := rfl
@[simp] theorem isNon_str (s : String) : D.isNon (.str s) = false := rfl
@[simp] theorem isNon_fl (ds : List D) : D.isNon (.fl ds) = false := rfl
@[simp] theorem eqD_bl (a b : Bool) : eqD (.bl a) (.bl b) = some (a == b) := rfl
mutual
def D.same : D → D → Bool
  | .non, .non => true
  | .bl a, .bl b => a == b
  | .int a, .int b => a == b
  | .str a, .str b => a == b
  | .tup xs, .tup ys => D.sames xs ys
  | .fl xs, .fl ys => D.sames xs ys
  | _, _ => false
def D.sames : List D → List D → Bool
  | [], [] => true
  | x :: xs, y :: ys => D.same x y && D.sames xs ys
  | _, _ => false
end
mutual
/-- data, nested at most so deep, of places that are not too many -/
def D.fit : Nat → D → Bool
  | 0, .tup _ => false
  | 0, .fl _ => false
  | n + 1, .tup xs => decide (xs.length ≤ 1000) && D.fits n xs
  | n + 1, .fl xs => decide (xs.length ≤ 1000) && D.fits n xs
  | _, .fd _ => false
  | _, .loc _ => false
  | _, .fn _ => false
  | _, _ => true
def D.fits : Nat → List D → Bool
  | _, [] => true
  | n, x :: xs => D.fit n x && D.fits n xs
end
theorem fits_at : ∀ {n : Nat} {xs : List D}, D.fits n xs = true → ∀ x ∈ xs, D.fit n x = true
  | _, [], _, x, h => by cases h
  | n, y :: ys, h, x, hx => by
    simp only [D.fits, Bool.and_eq_true] at h
    rcases List.mem_cons.mp hx with rfl | hx
    · exact h.1
    · exact fits_at h.2 x hx
theorem lcEv_pure {asg : D → Tau → Option Tau} {cond : Tau → Mem → Out Bool} {elt : Tau → Mem → Out D} {τ : Tau} {m : Mem} (c : D → Bool) (f : D → D) : ∀ (xs acc : List D), (∀ x ∈ xs, ∃ τ', asg x τ = some τ' ∧ cond τ' m = .ok (c x) m ∧ (c x = true → elt τ' m = .ok (f x) m)) → acc.length + xs.length ≤ lim →
    lcEv asg cond elt xs τ m acc = .ok (acc ++ (xs.filter c).map f) m
  | [], acc, _, _ => by simp
  | x :: xs, acc, h, hl => by
    obtain ⟨τ', h1, h2, h3⟩ := h x List.mem_cons_self
    simp only [List.length_cons] at hl
    rw [lc_cons, h1]
    simp only [h2, bind_ok]
    cases hc : c x with
    | false =>
      rw [if_neg (by decide), lcEv_pure c f xs acc (fun y hy => h y (List.mem_cons_of_mem _ hy)) (by omega), List.filter_cons_of_neg (by rw [hc]; decide)]
    | true =>
      rw [if_pos rfl, h3 hc, bind_ok, if_pos (by omega), lcEv_pure c f xs (acc ++ [f x]) (fun y hy => h y (List.mem_cons_of_mem _ hy)) (by simp only [List.length_append, List.length_cons, List.length_nil]; omega), List.filter_cons_of_pos hc]
      simp
theorem sames_all : ∀ {xs ys : List D}, xs.length = ys.length → D.sames xs ys = (List.range ys.length).all fun k => D.same (xs.getD k .non) (ys.getD k .non)
  | [], [], _ => rfl
  | x :: xs, y :: ys, h => by
    simp only [D.sames, List.length_cons, List.range_succ_eq_map, List.all_cons, List.all_map]
    rw [sames_all (xs := xs) (ys := ys) (by simpa using h)]
    rfl
theorem sames_len : ∀ {xs ys : List D}, xs.length ≠ ys.length → D.sames xs ys = false
  | [], [], h => absurd rfl h
  | [], _ :: _, _ => rfl
  | _ :: _, [], _ => rfl
  | x :: xs, y :: ys, h => by
    simp only [D.sames]
    rw [sames_len (xs := xs) (ys := ys) (by simpa using h), Bool.and_false]
section
variable {G : GE}
theorem getD_mem {xs : List D} {k : Nat} (h : k < xs.length) : xs.getD k .non ∈ xs := by
  have : xs.getD k .non = xs[k] := by simp [List.getD, h]
  rw [this]
  exact List.getElem_mem h
theorem same_row (hf : G.fns.lookup "_law_same" = some F__law_same) {n j : Nat} (ih : ∀ (due act : D) (m : Mem), due.fit n = true → act.fit n = true → callN G j "_law_same" [act, due] m = .ok (.val (.bl (D.same act due))) m)
    {xs ys : List D} {x y : D} (hx : (x = .tup xs ∧ y = .tup ys) ∨ (x = .fl xs ∧ y = .fl ys)) (hl : xs.length = ys.length) (l1 : ys.length ≤ 1000) (f1 : D.fits n xs = true) (f2 : D.fits n ys = true) (m : Mem) :
    evalE G.consts (callN G j) (.cmp .eq (.blt .len (.lc (.var 2) (.name 2) (.range1 (.blt .len (.var 1))) (.cons (.not (.call "_law_same" (.cons (.idx (.var 0) (.var 2)) (.cons (.idx (.var 1) (.var 2)) .nil)))) .nil) [("k", 2)])) (.int 0)) [some (.val x), some (.val y), none] m = .ok (.val (.bl (D.sames xs ys))) m := by
  have hr : rangeOf 0 (ys.length : Int) = (List.range ys.length).map fun k : Nat => D.int k := by
    unfold rangeOf
    simp
  have hlen : bfEv .len y = some (.val (.int ys.length)) := by rcases hx with ⟨_, rfl⟩ | ⟨_, rfl⟩ <;> rfl
  have hdr : deref m y = y := by rcases hx with ⟨_, rfl⟩ | ⟨_, rfl⟩ <;> rfl
  have hm : midInt (ys.length : Int) = true := by unfold midInt; simp; omega
  let c : D → Bool := fun d => match d with
    | .int i => !(D.same (xs.getD i.toNat .non) (ys.getD i.toNat .non))
    | _ => false
  have key : ∀ d ∈ (List.range ys.length).map (fun k : Nat => D.int k), ∃ τ', tgEv (.name 2) d [some (.val x), some (.val y), none] = some τ' ∧
      noexc (evalT G.consts (callN G j) (.cons (.not (.call "_law_same" (.cons (.idx (.var 0) (.var 2)) (.cons (.idx (.var 1) (.var 2)) .nil)))) .nil) τ' m) = .ok (c d) m ∧ (c d = true → noexc (toV (evalE G.consts (callN G j) (.var 2) τ' m)) = .ok (id d) m) := by
    intro d hd
    obtain ⟨k, hk, rfl⟩ := List.mem_map.mp hd
    have hk := List.mem_range.mp hk
    refine ⟨[some (.val x), some (.val y), some (.val (.int k))], rfl, ?_, fun _ => by simp⟩
    have a1 : idxEv x (.int k) = some (xs.getD k .non) := by
      have := at_nat (ds := xs) (v := (k : Int)) (by omega) (by omega)
      rcases hx with ⟨rfl, _⟩ | ⟨rfl, _⟩ <;> simp [lim_eq, this] <;> omega
    have a2 : idxEv y (.int k) = some (ys.getD k .non) := by
      have := at_nat (ds := ys) (v := (k : Int)) (by omega) (by omega)
      rcases hx with ⟨_, rfl⟩ | ⟨_, rfl⟩ <;> simp [lim_eq, this] <;> omega
    have hdx : deref m x = x := by rcases hx with ⟨rfl, _⟩ | ⟨rfl, _⟩ <;> rfl
    have b1 : (xs.getD k .non).fit n = true := fits_at f1 _ (getD_mem (by omega))
    have b2 : (ys.getD k .non).fit n = true := fits_at f2 _ (getD_mem (by omega))
    have i1 := ih _ _ m b2 b1
    have hc : c (.int (k : Int)) = !(D.same (xs.getD k .non) (ys.getD k .non)) := rfl
    rw [hc]
    generalize xs.getD k .non = u at a1 i1 ⊢
    generalize ys.getD k .non = v at a2 i1 ⊢
    simp [hdx, hdr, a1, a2, i1]
  have hR := lcEv_pure (asg := tgEv (.name 2)) (cond := fun τ m => noexc (evalT G.consts (callN G j) (.cons (.not (.call "_law_same" (.cons (.idx (.var 0) (.var 2)) (.cons (.idx (.var 1) (.var 2)) .nil)))) .nil) τ m)) (elt := fun τ m => noexc (toV (evalE G.consts (callN G j) (.var 2) τ m)))
    (τ := [some (.val x), some (.val y), none]) (m := m) c id ((List.range ys.length).map fun k : Nat => D.int k) [] key (by simp [lim_eq]; omega)
  have e1 : evalI G.consts (callN G j) (.range1 (.blt .len (.var 1))) [some (.val x), some (.val y), none] m = .ok (rangeOf 0 ys.length) m := by simp [hlen, hdr, hm]
  have e2 : evalE G.consts (callN G j) (.lc (.var 2) (.name 2) (.range1 (.blt .len (.var 1))) (.cons (.not (.call "_law_same" (.cons (.idx (.var 0) (.var 2)) (.cons (.idx (.var 1) (.var 2)) .nil)))) .nil) [("k", 2)]) [some (.val x), some (.val y), none] m =
      .ok (.own (.lst ([] ++ (((List.range ys.length).map fun k : Nat => D.int k).filter c).map id))) m := by
    rw [ev_lc, e1, bind_ok, if_pos (by simp), hr]
    show (lcEv _ _ _ _ [some (.val x), some (.val y), none] m []).bind _ = _
    rw [hR]
    rfl
  rw [ev_cmp, pk_blt, ev_blt, pk_lc, e2]
  simp
  rw [sames_all hl, List.filter_map, List.length_map]
  have : ((List.filter (c ∘ fun k : Nat => D.int k) (List.range ys.length)).length : Int) = 0 ↔ ((List.range ys.length).all fun k => D.same (xs.getD k .non) (ys.getD k .non)) = true := by
    have e : (List.filter (c ∘ fun k : Nat => D.int k) (List.range ys.length)).length = 0 ↔ ∀ k ∈ List.range ys.length, ¬ (c ∘ fun k : Nat => D.int k) k = true := by
      rw [List.length_eq_zero_iff, List.filter_eq_nil_iff]
    rw [List.all_eq_true]
    constructor
    · intro h k hk
      have := e.mp (by omega) k hk
      have hc : (c ∘ fun k : Nat => D.int k) k = !(D.same (xs.getD k .non) (ys.getD k .non)) := rfl
      rw [hc] at this
      simpa using this
    · intro h
      have := e.mpr fun k hk => by
        have hc : (c ∘ fun k : Nat => D.int k) k = !(D.same (xs.getD k .non) (ys.getD k .non)) := rfl
        rw [hc, h k hk]
        decide
      omega
  generalize ((List.filter (c ∘ fun k : Nat => D.int k) (List.range ys.length)).length : Int) = z at this ⊢
  generalize ((List.range ys.length).all fun k => D.same (xs.getD k .non) (ys.getD k .non)) = b at this ⊢
  cases b with
  | true => rw [this.mpr rfl]; rfl
  | false =>
    have hz : ¬ z = 0 := fun h => by have := this.mp h; cases this
    simp [hz]
theorem same_at (hf : G.fns.lookup "_law_same" = some F__law_same) : ∀ (n : Nat) {N : Nat} (hN : n + 1 ≤ N) (due act : D) (m : Mem), due.fit n = true → act.fit n = true → callN G N "_law_same" [act, due] m = .ok (.val (.bl (D.same act due))) m := by
  intro n
  induction n with
  | zero =>
    intro N hN due act m h1 h2
    obtain ⟨j, rfl⟩ : ∃ j, N = j + 1 := ⟨N - 1, by omega⟩
    rw [callN_eq hf rfl]
    cases due <;> first | (simp [D.fit] at h1; done) | skip
    all_goals (cases act <;> first | (simp [D.fit] at h2; done) | simp [F__law_same, startT, run_cons, List.replicate, D.same])
  | succ n ih =>
    intro N hN due act m h1 h2
    obtain ⟨j, rfl⟩ : ∃ j, N = j + 1 := ⟨N - 1, by omega⟩
    rw [callN_eq hf rfl]
    have ih' := fun due act m => ih (N := j) (by omega) due act m
    have row := fun {xs ys : List D} {x y : D} hx hl l1 f1 f2 => same_row hf (n := n) (j := j) ih' (xs := xs) (ys := ys) (x := x) (y := y) hx hl l1 f1 f2 m
    have tt : ∀ {xs ys : List D} {x y : D}, ((x = .tup xs ∧ y = .tup ys) ∨ (x = .fl xs ∧ y = .fl ys)) → xs.length ≤ 1000 ∧ D.fits n xs = true → ys.length ≤ 1000 ∧ D.fits n ys = true →
        bodyOut (runSs G.consts (callN G j) F__law_same.body [some (.val x), some (.val y), none] m) = .ok (.val (.bl (D.sames xs ys))) m := by
      intro xs ys x y hx k1 k2
      have h1000 : xs.length ≤ lim ∧ ys.length ≤ lim := by rw [lim_eq]; omega
      have hrow : xs.length = ys.length → _ := fun hl => row hx hl k2.1 k1.2 k2.2
      simp only [F__law_same]
      generalize hE : (ME.cmp .eq (.blt .len (.lc (.var 2) (.name 2) (.range1 (.blt .len (.var 1))) (.cons (.not (.call "_law_same" (.cons (.idx (.var 0) (.var 2)) (.cons (.idx (.var 1) (.var 2)) .nil)))) .nil) [("k", 2)])) (.int 0)) = E at hrow ⊢
      have hV : isVar E = false := by rw [← hE]; rfl
      by_cases hl : xs.length = ys.length
      · have r := hrow hl
        have hI : ((xs.length : Int) == (ys.length : Int)) = true := by simp [hl]
        rcases hx with ⟨rfl, rfl⟩ | ⟨rfl, rfl⟩ <;> simp [run_cons, run_retE hV, r, hI]
      · have hI : ((xs.length : Int) == (ys.length : Int)) = false := by simp; omega
        rcases hx with ⟨rfl, rfl⟩ | ⟨rfl, rfl⟩ <;> (rw [sames_len hl]; simp [run_cons, hI])
    cases due <;> first | (simp [D.fit] at h1; done) | skip
    all_goals (cases act <;> first | (simp [D.fit] at h2; done) | skip)
    all_goals first
      | (simp [F__law_same, startT, run_cons, List.replicate, D.same]; done)
      | (simp only [D.fit, Bool.and_eq_true, decide_eq_true_eq] at h1 h2
         first
           | exact tt (.inl ⟨rfl, rfl⟩) h2 h1
           | exact tt (.inr ⟨rfl, rfl⟩) h2 h1)
end
end P3
set_option Elab.async false
set_option linter.all false
set_option maxRecDepth 100000
set_option maxHeartbeats 0
/-! P4G: laws of kinds -/
namespace P3
theorem shared_comm : ∀ a b : Kd, shared a b = shared b a := by
  intro a
  induction a <;> intro b <;> cases b <;> simp_all [shared]
theorem shared_assoc : ∀ a b c : Kd, shared a (shared b c) = shared (shared a b) c := by
  intro a
  induction a <;> intro b c <;> cases b <;> cases c <;> simp_all [shared]
theorem shared_self : ∀ a : Kd, shared a a = a := by
  intro a
  induction a <;> simp_all [shared]
theorem agree_self : ∀ a : Kd, agree a a = true := by
  intro a
  induction a <;> simp_all [agree]
theorem meet_self : ∀ a : Kd, meet a a = a := by
  intro a
  induction a <;> simp_all [meet]
@[simp] theorem shared_any (a : Kd) : shared a .any = .any := by cases a <;> rfl
@[simp] theorem meet_any (a : Kd) : meet a .any = a := by cases a <;> rfl
@[simp] theorem agree_any (a : Kd) : agree a .any = true := by cases a <;> rfl
@[simp] theorem agree_anyL (a : Kd) : agree .any a = true := by cases a <;> rfl
@[simp] theorem meet_anyL (a : Kd) : meet .any a = a := by cases a <;> rfl
@[simp] theorem shared_anyL (a : Kd) : shared .any a = .any := by cases a <;> rfl
theorem agree_comm : ∀ a b : Kd, agree a b = agree b a := by
  intro a
  induction a <;> intro b <;> cases b <;> simp_all [agree]
/-- meets, with none -/
theorem meet_assoc : ∀ a b c : Kd, (agree b c && agree a (meet b c)) = (agree a b && agree (meet a b) c) ∧ (agree b c = true → agree a (meet b c) = true → meet a (meet b c) = meet (meet a b) c) := by
  intro a
  induction a with
  | any => intro b c; simp
  | int => intro b c; cases b <;> cases c <;> simp [agree, meet]
  | bool => intro b c; cases b <;> cases c <;> simp [agree, meet]
  | fn x y ix iy =>
    intro b c
    cases b <;> cases c <;> try (simp [agree, meet]; done)
    rename_i x1 y1 x2 y2
    obtain ⟨h1, h2⟩ := ix x1 x2
    obtain ⟨h3, h4⟩ := iy y1 y2
    simp only [agree, meet, Bool.and_eq_true]
    constructor
    · rw [Bool.eq_iff_iff] at h1 h3 ⊢
      simp only [Bool.and_eq_true] at h1 h3 ⊢
      constructor
      · intro ⟨⟨a1, a2⟩, a3, a4⟩
        exact ⟨⟨(h1.mp ⟨a1, a3⟩).1, (h3.mp ⟨a2, a4⟩).1⟩, (h1.mp ⟨a1, a3⟩).2, (h3.mp ⟨a2, a4⟩).2⟩
      · intro ⟨⟨a1, a2⟩, a3, a4⟩
        exact ⟨⟨(h1.mpr ⟨a1, a3⟩).1, (h3.mpr ⟨a2, a4⟩).1⟩, (h1.mpr ⟨a1, a3⟩).2, (h3.mpr ⟨a2, a4⟩).2⟩
    · intro ⟨a1, a2⟩ ⟨a3, a4⟩
      rw [h2 a1 a3, h4 a2 a4]
  | pr x y ix iy =>
    intro b c
    cases b <;> cases c <;> try (simp [agree, meet]; done)
    rename_i x1 y1 x2 y2
    obtain ⟨h1, h2⟩ := ix x1 x2
    obtain ⟨h3, h4⟩ := iy y1 y2
    simp only [agree, meet, Bool.and_eq_true]
    constructor
    · rw [Bool.eq_iff_iff] at h1 h3 ⊢
      simp only [Bool.and_eq_true] at h1 h3 ⊢
      constructor
      · intro ⟨⟨a1, a2⟩, a3, a4⟩
        exact ⟨⟨(h1.mp ⟨a1, a3⟩).1, (h3.mp ⟨a2, a4⟩).1⟩, (h1.mp ⟨a1, a3⟩).2, (h3.mp ⟨a2, a4⟩).2⟩
      · intro ⟨⟨a1, a2⟩, a3, a4⟩
        exact ⟨⟨(h1.mpr ⟨a1, a3⟩).1, (h3.mpr ⟨a2, a4⟩).1⟩, (h1.mpr ⟨a1, a3⟩).2, (h3.mpr ⟨a2, a4⟩).2⟩
    · intro ⟨a1, a2⟩ ⟨a3, a4⟩
      rw [h2 a1 a3, h4 a2 a4]
/-- absorption -/
theorem absorb : ∀ a b : Kd, agree a b = true → shared a (meet a b) = a ∧ lesst (shared a b) (meet a b) = true := by
  intro a
  induction a <;> intro b <;> cases b <;> simp_all [agree, meet, shared, lesst, shared_self]
theorem lesst_self : ∀ a : Kd, lesst a a = true := by
  intro a
  induction a <;> simp_all [lesst]
theorem absorb2 : ∀ a b : Kd, agree a (shared a b) = true ∧ meet a (shared a b) = a := by
  intro a
  induction a <;> intro b <;> cases b <;> simp_all [agree, meet, shared]
theorem lesst_agree : ∀ a b c : Kd, lesst a b = true → agree b c = true → agree a c = true := by
  intro a
  induction a <;> intro b c <;> cases b <;> cases c <;> simp_all [lesst, agree] <;> grind
theorem lesst_is : ∀ a b : Kd, lesst a b = true → shared a b = a ∧ agree a b = true ∧ meet a b = b := by
  intro a
  induction a <;> intro b <;> cases b <;> simp_all [lesst, shared, agree, meet]
theorem lesst_shared : ∀ a b c : Kd, lesst a b = true → lesst (shared a c) (shared b c) = true := by
  intro a
  induction a <;> intro b c <;> cases b <;> cases c <;> simp_all [lesst, shared]
theorem meet_agree : ∀ a b c : Kd, agree a b = true → agree (meet a b) c = true → agree a c = true ∧ agree b c = true := by
  intro a
  induction a <;> intro b c <;> cases b <;> cases c <;> simp_all [agree, meet] <;> grind
theorem lesst_trans : ∀ a b c : Kd, lesst a b = true → lesst b c = true → lesst a c = true := by
  intro a
  induction a <;> intro b c <;> cases b <;> cases c <;> simp_all [lesst] <;> grind
theorem lesst_anti : ∀ a b : Kd, lesst a b = true → lesst b a = true → a = b := by
  intro a
  induction a <;> intro b <;> cases b <;> simp_all [lesst] <;> grind
theorem shared_dep : ∀ a b : Kd, (shared a b).dep ≤ a.dep := by
  intro a
  induction a with
  | any => intro b; simp [Kd.dep]
  | int => intro b; cases b <;> simp [shared, Kd.dep]
  | bool => intro b; cases b <;> simp [shared, Kd.dep]
  | fn x y ix iy =>
    intro b
    cases b <;> simp [shared, Kd.dep]
    rename_i x1 y1
    have := ix x1
    have := iy y1
    omega
  | pr x y ix iy =>
    intro b
    cases b <;> simp [shared, Kd.dep]
    rename_i x1 y1
    have := ix x1
    have := iy y1
    omega
theorem meet_dep : ∀ (a b : Kd) (n : Nat), a.dep ≤ n → b.dep ≤ n → (meet a b).dep ≤ n := by
  intro a
  induction a with
  | any => intro b n h1 h2; simpa using h2
  | int => intro b n h1 h2; cases b <;> simp [meet, Kd.dep]
  | bool => intro b n h1 h2; cases b <;> simp [meet, Kd.dep]
  | fn x y ix iy =>
    intro b n h1 h2
    cases b <;> try (simpa [meet] using h1)
    rename_i x1 y1
    simp only [Kd.dep, meet] at *
    have := ix x1 (n - 1) (by omega) (by omega)
    have := iy y1 (n - 1) (by omega) (by omega)
    omega
  | pr x y ix iy =>
    intro b n h1 h2
    cases b <;> try (simpa [meet] using h1)
    rename_i x1 y1
    simp only [Kd.dep, meet] at *
    have := ix x1 (n - 1) (by omega) (by omega)
    have := iy y1 (n - 1) (by omega) (by omega)
    omega
theorem fit_tup (n : Nat) (xs : List D) : D.fit (n + 1) (.tup xs) = (decide (xs.length ≤ 1000) && D.fits n xs) := rfl
theorem fit_fl (n : Nat) (xs : List D) : D.fit (n + 1) (.fl xs) = (decide (xs.length ≤ 1000) && D.fits n xs) := rfl
theorem fits_nil (n : Nat) : D.fits n [] = true := by cases n <;> rfl
theorem fits_cons (n : Nat) (x : D) (xs : List D) : D.fits n (x :: xs) = (D.fit n x && D.fits n xs) := by cases n <;> rfl
theorem fit_str (n : Nat) (s : String) : D.fit n (.str s) = true := by cases n <;> rfl
theorem fit_bl (n : Nat) (s : Bool) : D.fit n (.bl s) = true := by cases n <;> rfl
theorem fit_int (n : Nat) (s : Int) : D.fit n (.int s) = true := by cases n <;> rfl
theorem fit_non (n : Nat) : D.fit n .non = true := by cases n <;> rfl
theorem shal_tup (n : Nat) (xs : List D) : D.shal (n + 1) (.tup xs) = D.shals n xs := rfl
theorem shals_nil (n : Nat) : D.shals n [] = true := by cases n <;> rfl
theorem shals_cons (n : Nat) (x : D) (xs : List D) : D.shals n (x :: xs) = (D.shal n x && D.shals n xs) := by cases n <;> rfl
theorem shal_str (n : Nat) (s : String) : D.shal n (.str s) = true := by cases n <;> rfl
theorem fit_mono : ∀ (n : Nat) (k : Kd), k.dep < n → k.d.fit n = true := by
  intro n
  induction n with
  | zero => intro k h; omega
  | succ n ih =>
    intro k h
    cases k with
    | any => simp [Kd.d, fit_tup, fits_nil, fits_cons, fit_str]
    | int => simp [Kd.d, fit_tup, fits_nil, fits_cons, fit_str]
    | bool => simp [Kd.d, fit_tup, fits_nil, fits_cons, fit_str]
    | fn a b =>
      simp only [Kd.dep] at h
      simp [Kd.d, fit_tup, fits_nil, fits_cons, fit_str, ih a (by omega), ih b (by omega)]
    | pr a b =>
      simp only [Kd.dep] at h
      simp [Kd.d, fit_tup, fits_nil, fits_cons, fit_str, ih a (by omega), ih b (by omega)]
theorem same_kd : ∀ k : Kd, D.same k.d k.d = true := by
  intro k
  induction k <;> simp_all [Kd.d, D.same, D.sames]
theorem eqv_kd : ∀ a b : Kd, D.eqv a.d b.d = (a == b) := by
  intro a
  induction a <;> intro b <;> cases b <;> simp_all [Kd.d, D.eqv, D.eqvs] <;> grind
theorem shal_kd : ∀ (n : Nat) (k : Kd), k.dep < n → k.d.shal n = true := by
  intro n
  induction n with
  | zero => intro k h; omega
  | succ n ih =>
    intro k h
    cases k with
    | any => simp [Kd.d, shal_tup, shals_nil, shals_cons, shal_str]
    | int => simp [Kd.d, shal_tup, shals_nil, shals_cons, shal_str]
    | bool => simp [Kd.d, shal_tup, shals_nil, shals_cons, shal_str]
    | fn a b =>
      simp only [Kd.dep] at h
      simp [Kd.d, shal_tup, shals_nil, shals_cons, shal_str, ih a (by omega), ih b (by omega)]
    | pr a b =>
      simp only [Kd.dep] at h
      simp [Kd.d, shal_tup, shals_nil, shals_cons, shal_str, ih a (by omega), ih b (by omega)]
theorem eqD_kd (a b : Kd) (h : a.dep < 200) : eqD a.d b.d = some (a == b) := by
  unfold eqD
  rw [a.data, b.data, shal_kd deepest a h, eqv_kd]
  rfl
end P3
set_option Elab.async false
set_option linter.all false
set_option maxRecDepth 100000
set_option maxHeartbeats 0
/-! P5A: coercions -/
namespace P3
open PySem L2
inductive Tg where
  | int | bool | fn | pr
  deriving DecidableEq
def Tg.s : Tg → String
  | .int => "int"
  | .bool => "bool"
  | .fn => "fun"
  | .pr => "pair"
/-- the kind that just says the tag -/
def Tg.k : Tg → Kd
  | .int => .int
  | .bool => .bool
  | .fn => .fn .any .any
  | .pr => .pr .any .any
def Kd.tg : Kd → Tg
  | .any => .int
  | .int => .int
  | .bool => .bool
  | .fn _ _ => .fn
  | .pr _ _ => .pr
def Kd.gr (k : Kd) : Kd := k.tg.k
inductive Co where
  | stay | same | fail (l s : Int) | frm (l s : Int) (t : Tg) (c : Co) | to (t : Tg) (c : Co) | fn (a b : Co) | pr (a b : Co)
  deriving DecidableEq
def Co.d : Co → D
  | .stay => .tup [.str "stay"]
  | .same => .tup [.str "same"]
  | .fail l s => .tup [.str "fail", .int l, .int s]
  | .frm l s t c => .tup [.str "from", .int l, .int s, .str t.s, c.d]
  | .to t c => .tup [.str "to", .str t.s, c.d]
  | .fn a b => .tup [.str "fun", a.d, b.d]
  | .pr a b => .tup [.str "pair", a.d, b.d]
def Co.w : Co → String
  | .stay => "stay"
  | .same => "same"
  | .fail _ _ => "fail"
  | .frm _ _ _ _ => "from"
  | .to _ _ => "to"
  | .fn _ _ => "fun"
  | .pr _ _ => "pair"
@[simp] theorem w_stay : Co.stay.w = "stay" := rfl
@[simp] theorem w_same : Co.same.w = "same" := rfl
@[simp] theorem w_fail (l s : Int) : (Co.fail l s).w = "fail" := rfl
@[simp] theorem w_frm (l s : Int) (t : Tg) (c : Co) : (Co.frm l s t c).w = "from" := rfl
@[simp] theorem w_to (t : Tg) (c : Co) : (Co.to t c).w = "to" := rfl
@[simp] theorem w_fn (a b : Co) : (Co.fn a b).w = "fun" := rfl
@[simp] theorem w_pr (a b : Co) : (Co.pr a b).w = "pair" := rfl
def Co.ht : Co → Nat
  | .stay => 0
  | .same => 0
  | .fail _ _ => 0
  | .frm _ _ _ c => c.ht + 1
  | .to _ c => c.ht + 1
  | .fn a b => max a.ht b.ht + 1
  | .pr a b => max a.ht b.ht + 1
def Co.isFail : Co → Bool
  | .fail _ _ => true
  | _ => false
def Co.isStay : Co → Bool
  | .stay => true
  | _ => false
theorem Tg.s_inj {a b : Tg} (h : a.s = b.s) : a = b := by cases a <;> cases b <;> first | rfl | (simp [Tg.s] at h)
@[simp] theorem Tg.s_beq (a b : Tg) : (a.s == b.s) = decide (a = b) := by
  by_cases h : a = b
  · subst h; simp
  · rw [decide_eq_false h, beq_eq_false_iff_ne]; exact fun z => h (Tg.s_inj z)
theorem Co.data : ∀ c : Co, c.d.isData = true
  | .stay => rfl
  | .same => rfl
  | .fail _ _ => rfl
  | .frm l s t c => by simp [Co.d, D.isData, D.areData, c.data]
  | .to t c => by simp [Co.d, D.isData, D.areData, c.data]
  | .fn a b => by simp [Co.d, D.isData, D.areData, a.data, b.data]
  | .pr a b => by simp [Co.d, D.isData, D.areData, a.data, b.data]
/-! ### accessors -/
@[simp] theorem dk_deref (k : Kd) (m : Mem) : deref m k.d = k.d := by cases k <;> rfl
@[simp] theorem dc_deref (c : Co) (m : Mem) : deref m c.d = c.d := by cases c <;> rfl
@[simp] theorem dk_0 (k : Kd) : idxEv k.d (.int 0) = some (.str k.head) := by cases k <;> rfl
@[simp] theorem dk_fn1 (a b : Kd) : idxEv (Kd.fn a b).d (.int 1) = some a.d := rfl
@[simp] theorem dk_fn2 (a b : Kd) : idxEv (Kd.fn a b).d (.int 2) = some b.d := rfl
@[simp] theorem dk_pr1 (a b : Kd) : idxEv (Kd.pr a b).d (.int 1) = some a.d := rfl
@[simp] theorem dk_pr2 (a b : Kd) : idxEv (Kd.pr a b).d (.int 2) = some b.d := rfl
@[simp] theorem dk_any (k : Kd) : eqD k.d (.tup [.str "any"]) = some k.isAny := eqD_any k
@[simp] theorem dc_0 (c : Co) : idxEv c.d (.int 0) = some (.str c.w) := by cases c <;> rfl
@[simp] theorem dc_fn1 (a b : Co) : idxEv (Co.fn a b).d (.int 1) = some a.d := rfl
@[simp] theorem dc_fn2 (a b : Co) : idxEv (Co.fn a b).d (.int 2) = some b.d := rfl
@[simp] theorem dc_pr1 (a b : Co) : idxEv (Co.pr a b).d (.int 1) = some a.d := rfl
@[simp] theorem dc_pr2 (a b : Co) : idxEv (Co.pr a b).d (.int 2) = some b.d := rfl
@[simp] theorem dc_to1 (t : Tg) (b : Co) : idxEv (Co.to t b).d (.int 1) = some (.str t.s) := rfl
@[simp] theorem dc_to2 (t : Tg) (b : Co) : idxEv (Co.to t b).d (.int 2) = some b.d := rfl
@[simp] theorem dc_frm1 (l s : Int) (t : Tg) (b : Co) : idxEv (Co.frm l s t b).d (.int 1) = some (.int l) := rfl
@[simp] theorem dc_frm2 (l s : Int) (t : Tg) (b : Co) : idxEv (Co.frm l s t b).d (.int 2) = some (.int s) := rfl
@[simp] theorem dc_frm3 (l s : Int) (t : Tg) (b : Co) : idxEv (Co.frm l s t b).d (.int 3) = some (.str t.s) := rfl
@[simp] theorem dc_frm4 (l s : Int) (t : Tg) (b : Co) : idxEv (Co.frm l s t b).d (.int 4) = some b.d := rfl
@[simp] theorem dc_fail1 (l s : Int) : idxEv (Co.fail l s).d (.int 1) = some (.int l) := rfl
@[simp] theorem dc_fail2 (l s : Int) : idxEv (Co.fail l s).d (.int 2) = some (.int s) := rfl
@[simp] theorem dc_stay (c : Co) : eqD c.d (.tup [.str "stay"]) = some c.isStay := by
  unfold eqD
  rw [c.data]
  have h1 : (D.tup [.str "stay"]).isData = true := rfl
  have h2 : (D.tup [.str "stay"]).shal deepest = true := rfl
  rw [h1, h2, Bool.or_true]
  cases c <;> simp [Co.d, D.eqv, D.eqvs, Co.isStay]
@[simp] theorem dc_fail (c : Co) (l s : Int) : eqD c.d (.tup [.str "fail", .int l, .int s]) = some (decide (c = .fail l s)) := by
  unfold eqD
  rw [c.data]
  have h1 : (D.tup [.str "fail", .int l, .int s]).isData = true := rfl
  have h2 : (D.tup [.str "fail", .int l, .int s]).shal deepest = true := rfl
  rw [h1, h2, Bool.or_true]
  cases c <;> simp [Co.d, D.eqv, D.eqvs]
  rfl
/-! ### what the functions compute -/
def chk (l s : Int) (t : Tg) (c : Co) : Co := if c = .fail l s then c else .frm l s t c
def thenC : Co → Co → Co
  | .stay, c => c
  | .fail l s, _ => .fail l s
  | .frm l s t r, c => chk l s t (thenC r c)
  | .same, .fail l s => .fail l s
  | .to _ _, .fail l s => .fail l s
  | .fn _ _, .fail l s => .fail l s
  | .pr _ _, .fail l s => .fail l s
  | .to t x, .frm l s t' y => if t' = t then thenC x y else .fail l s
  | .to t x, _ => .to t x
  | .same, .to t y => .to t (thenC .same y)
  | .fn a b, .to t y => .to t (thenC (.fn a b) y)
  | .pr a b, .to t y => .to t (thenC (.pr a b) y)
  | .fn a b, .fn c d => .fn (thenC c a) (thenC b d)
  | .pr a b, .pr c d => .pr (thenC a c) (thenC b d)
  | x, _ => x
termination_by a b => sizeOf a + sizeOf b
/-- c goes from one kind to the other one -/
inductive Sh : Co → Kd → Kd → Prop
  | stay : Sh .stay .any .any
  | int : Sh .same .int .int
  | bool : Sh .same .bool .bool
  | fail (l s : Int) (a b : Kd) : Sh (.fail l s) a b
  | fn {x y : Co} {a b c d : Kd} : Sh x c a → Sh y b d → Sh (.fn x y) (.fn a b) (.fn c d)
  | pr {x y : Co} {a b c d : Kd} : Sh x a c → Sh y b d → Sh (.pr x y) (.pr a b) (.pr c d)
  | to {x : Co} {k : Kd} : k.isAny = false → x.isFail = false → Sh x k k.gr → Sh (.to k.tg x) k .any
  | frm {x : Co} {k : Kd} (l s : Int) (t : Tg) : Sh x t.k k → x ≠ .fail l s → Sh (.frm l s t x) .any k
/-- the module's texts -/
structure HasCo (G : GE) : Prop where
  any : HasAny G
  stay : G.consts.lookup "STAY" = some (.tup [.str "stay"])
  same : G.consts.lookup "SAME" = some (.tup [.str "same"])
  checked : G.fns.lookup "checked" = some F_checked
  then_ : G.fns.lookup "then" = some F_then
  behind : G.fns.lookup "behind_tag" = some F_behind_tag
section
variable {G : GE}
theorem checked_at (hf : HasCo G) {n : Nat} (hn : 1 ≤ n) (l s : Int) (t : Tg) (c : Co) (m : Mem) : callN G n "checked" [.int l, .int s, .str t.s, c.d] m = .ok (.val (chk l s t c).d) m := by
  obtain ⟨j, rfl⟩ : ∃ j, n = j + 1 := ⟨n - 1, by omega⟩
  rw [callN_eq hf.checked rfl]
  by_cases h : c = .fail l s
  · simp [F_checked, startT, run_cons, List.replicate, lim_eq, chk, h]
  · simp [F_checked, startT, run_cons, List.replicate, lim_eq, chk, h, Co.d]
theorem then_at (hf : HasCo G) : ∀ (n : Nat) (x y : Co) (a b c : Kd) (m : Mem), Sh x a b → Sh y b c → 2 * (x.ht + y.ht) + 2 ≤ n → callN G n "then" [x.d, y.d] m = .ok (.val (thenC x y).d) m := by
  intro n
  induction n using Nat.strongRecOn with
  | _ n ih =>
    intro x y a b c m h1 h2 hn
    obtain ⟨j, rfl⟩ : ∃ j, n = j + 1 := ⟨n - 1, by omega⟩
    rw [callN_eq hf.then_ rfl]
    cases h1 with
    | stay => simp [F_then, startT, run_cons, List.replicate, lim_eq, thenC, hf.stay, Co.isStay]
    | fail l s a b => simp [F_then, startT, run_cons, List.replicate, lim_eq, thenC, hf.stay, Co.isStay]
    | frm l s t r hne =>
      rename_i x
      simp only [Co.ht] at hn
      have i1 := ih j (by omega) x y _ _ _ m r h2 (by omega)
      have i2 := fun c => checked_at hf (n := j) (by omega) l s t c m
      simp [F_then, startT, run_cons, List.replicate, lim_eq, thenC, hf.stay, Co.isStay, i1, i2]
    | int =>
      cases h2 with
      | int => simp [F_then, startT, run_cons, List.replicate, lim_eq, thenC, hf.stay, hf.same, Co.isStay, Co.d]
      | fail l s a b => simp [F_then, startT, run_cons, List.replicate, lim_eq, thenC, hf.stay, Co.isStay]
      | to h hx r =>
        rename_i y
        simp only [Co.ht] at hn
        have i1 := ih j (by omega) .same y _ _ _ m .int r (by simp only [Co.ht]; omega)
        simp [F_then, startT, run_cons, List.replicate, lim_eq, thenC, hf.stay, Co.isStay, i1]
        rfl
    | bool =>
      cases h2 with
      | bool => simp [F_then, startT, run_cons, List.replicate, lim_eq, thenC, hf.stay, hf.same, Co.isStay, Co.d]
      | fail l s a b => simp [F_then, startT, run_cons, List.replicate, lim_eq, thenC, hf.stay, Co.isStay]
      | to h hx r =>
        rename_i y
        simp only [Co.ht] at hn
        have i1 := ih j (by omega) .same y _ _ _ m .bool r (by simp only [Co.ht]; omega)
        simp [F_then, startT, run_cons, List.replicate, lim_eq, thenC, hf.stay, Co.isStay, i1]
        rfl
    | to h hx r =>
      rename_i x
      simp only [Co.ht] at hn
      obtain ⟨k, rfl⟩ : ∃ k, j = k + 1 := ⟨j - 1, by omega⟩
      cases h2 with
      | stay =>
        have hb : callN G (k + 1) "behind_tag" [(Co.to a.tg x).d, Co.stay.d] m = .ok (.val (Co.to a.tg x).d) m := by
          rw [callN_eq hf.behind rfl]
          simp [F_behind_tag, startT, run_cons, List.replicate, lim_eq, hf.stay, Co.isStay]
        simp [F_then, startT, run_cons, List.replicate, lim_eq, thenC, hf.stay, Co.isStay, hb]
      | fail l s a b => simp [F_then, startT, run_cons, List.replicate, lim_eq, thenC, hf.stay, Co.isStay]
      | to h' hx' r' => exact absurd h' (by decide)
      | frm l s t r2 hne =>
        rename_i y
        simp only [Co.ht] at hn
        have hb : callN G (k + 1) "behind_tag" [(Co.to a.tg x).d, (Co.frm l s t y).d] m = .ok (.val (if t = a.tg then thenC x y else .fail l s).d) m := by
          rw [callN_eq hf.behind rfl]
          by_cases e : t = a.tg
          · subst e
            have i1 := ih k (by omega) x y _ _ _ m r r2 (by omega)
            simp [F_behind_tag, startT, run_cons, List.replicate, lim_eq, hf.stay, Co.isStay, i1]
          · have hs : slcEv (Co.frm l s t y).d (some 1) (some 3) = some (.val (.tup [.int l, .int s])) := rfl
            simp [F_behind_tag, startT, run_cons, List.replicate, lim_eq, hf.stay, Co.isStay, e, hs]
            rfl
        simp [F_then, startT, run_cons, List.replicate, lim_eq, thenC, hf.stay, Co.isStay, hb]
    | fn r1 r2 =>
      rename_i x1 x2 a1 b1 c1 d1
      simp only [Co.ht] at hn
      cases h2 with
      | fail l s a b => simp [F_then, startT, run_cons, List.replicate, lim_eq, thenC, hf.stay, Co.isStay]
      | to h hx r =>
        rename_i y
        simp only [Co.ht] at hn
        have i1 := ih j (by omega) (.fn x1 x2) y _ _ _ m (.fn r1 r2) r (by simp only [Co.ht]; omega)
        simp [F_then, startT, run_cons, List.replicate, lim_eq, thenC, hf.stay, Co.isStay, i1]
        rfl
      | fn r3 r4 =>
        rename_i y1 y2 c2 d2
        simp only [Co.ht] at hn
        have i1 := ih j (by omega) y1 x1 _ _ _ m r3 r1 (by omega)
        have i2 := ih j (by omega) x2 y2 _ _ _ m r2 r4 (by omega)
        simp [F_then, startT, run_cons, List.replicate, lim_eq, thenC, hf.stay, Co.isStay, i1, i2]
        rfl
    | pr r1 r2 =>
      rename_i x1 x2 a1 b1 c1 d1
      simp only [Co.ht] at hn
      cases h2 with
      | fail l s a b => simp [F_then, startT, run_cons, List.replicate, lim_eq, thenC, hf.stay, Co.isStay]
      | to h hx r =>
        rename_i y
        simp only [Co.ht] at hn
        have i1 := ih j (by omega) (.pr x1 x2) y _ _ _ m (.pr r1 r2) r (by simp only [Co.ht]; omega)
        simp [F_then, startT, run_cons, List.replicate, lim_eq, thenC, hf.stay, Co.isStay, i1]
        rfl
      | pr r3 r4 =>
        rename_i y1 y2 c2 d2
        simp only [Co.ht] at hn
        have i1 := ih j (by omega) x1 y1 _ _ _ m r1 r3 (by omega)
        have i2 := ih j (by omega) x2 y2 _ _ _ m r2 r4 (by omega)
        simp [F_then, startT, run_cons, List.replicate, lim_eq, thenC, hf.stay, Co.isStay, i1, i2]
        rfl
end
end P3
set_option Elab.async false
set_option linter.all false
set_option maxRecDepth 100000
set_option maxHeartbeats 0
/-! P5B: the coercion of a cast -/
namespace P3
open PySem L2
mutual
def anyTo (l s : Int) : Kd → Co
  | .any => .stay
  | .int => .frm l s .int .same
  | .bool => .frm l s .bool .same
  | .fn a b => .frm l s .fn (.fn (toAny l (1 - s) a) (anyTo l s b))
  | .pr a b => .frm l s .pr (.pr (anyTo l s a) (anyTo l s b))
def toAny (l s : Int) : Kd → Co
  | .any => .stay
  | .int => .to .int .same
  | .bool => .to .bool .same
  | .fn a b => .to .fn (.fn (anyTo l (1 - s) a) (toAny l s b))
  | .pr a b => .to .pr (.pr (toAny l s a) (toAny l s b))
end
def co (l s : Int) : Kd → Kd → Co
  | .any, b => anyTo l s b
  | a, .any => toAny l s a
  | .fn a b, .fn c d => .fn (co l (1 - s) c a) (co l s b d)
  | .pr a b, .pr c d => .pr (co l s a c) (co l s b d)
  | _, _ => .same
termination_by a b => sizeOf a + sizeOf b
def idC : Kd → Co
  | .any => .stay
  | .int => .same
  | .bool => .same
  | .fn a b => .fn (idC a) (idC b)
  | .pr a b => .pr (idC a) (idC b)
@[simp] theorem co_anyL (l s : Int) (b : Kd) : co l s .any b = anyTo l s b := by cases b <;> simp [co]
@[simp] theorem co_anyR (l s : Int) (a : Kd) : co l s a .any = toAny l s a := by cases a <;> simp [co, anyTo, toAny]
@[simp] theorem co_fn (l s : Int) (a b c d : Kd) : co l s (.fn a b) (.fn c d) = .fn (co l (1 - s) c a) (co l s b d) := by simp [co]
@[simp] theorem co_pr (l s : Int) (a b c d : Kd) : co l s (.pr a b) (.pr c d) = .pr (co l s a c) (co l s b d) := by simp [co]
@[simp] theorem co_int (l s : Int) : co l s .int .int = .same := by simp [co]
@[simp] theorem co_bool (l s : Int) : co l s .bool .bool = .same := by simp [co]
/-! ### shapes -/
theorem sh_any : ∀ (k : Kd) (l s : Int), Sh (anyTo l s k) .any k ∧ Sh (toAny l s k) k .any
  | .any, l, s => ⟨.stay, .stay⟩
  | .int, l, s => ⟨.frm l s .int .int (by simp), .to (k := .int) rfl rfl .int⟩
  | .bool, l, s => ⟨.frm l s .bool .bool (by simp), .to (k := .bool) rfl rfl .bool⟩
  | .fn a b, l, s => ⟨.frm l s .fn (.fn (sh_any a l (1 - s)).2 (sh_any b l s).1) (by simp), .to (k := .fn a b) rfl rfl (.fn (sh_any a l (1 - s)).1 (sh_any b l s).2)⟩
  | .pr a b, l, s => ⟨.frm l s .pr (.pr (sh_any a l s).1 (sh_any b l s).1) (by simp), .to (k := .pr a b) rfl rfl (.pr (sh_any a l s).2 (sh_any b l s).2)⟩
theorem sh_co : ∀ (a b : Kd) (l s : Int), agree a b = true → Sh (co l s a b) a b ∧ Sh (co l s b a) b a := by
  intro a
  induction a with
  | any => intro b l s _; simp only [co_anyL, co_anyR]; exact ⟨(sh_any b l s).1, (sh_any b l s).2⟩
  | int =>
    intro b l s h
    cases b <;> simp [agree] at h
    · simp only [co_anyL, co_anyR]; exact ⟨(sh_any .int l s).2, (sh_any .int l s).1⟩
    · simp only [co_int]; exact ⟨.int, .int⟩
  | bool =>
    intro b l s h
    cases b <;> simp [agree] at h
    · simp only [co_anyL, co_anyR]; exact ⟨(sh_any .bool l s).2, (sh_any .bool l s).1⟩
    · simp only [co_bool]; exact ⟨.bool, .bool⟩
  | fn x y ix iy =>
    intro b l s h
    cases b <;> simp [agree] at h
    · simp only [co_anyL, co_anyR]; exact ⟨(sh_any _ l s).2, (sh_any _ l s).1⟩
    · rename_i c d
      simp only [co_fn]
      exact ⟨.fn (ix c l (1 - s) h.1).2 (iy d l s h.2).1, .fn (ix c l (1 - s) h.1).1 (iy d l s h.2).2⟩
  | pr x y ix iy =>
    intro b l s h
    cases b <;> simp [agree] at h
    · simp only [co_anyL, co_anyR]; exact ⟨(sh_any _ l s).2, (sh_any _ l s).1⟩
    · rename_i c d
      simp only [co_pr]
      exact ⟨.pr (ix c l s h.1).1 (iy d l s h.2).1, .pr (ix c l s h.1).2 (iy d l s h.2).2⟩
theorem sh_id : ∀ k : Kd, Sh (idC k) k k
  | .any => .stay
  | .int => .int
  | .bool => .bool
  | .fn a b => .fn (sh_id a) (sh_id b)
  | .pr a b => .pr (sh_id a) (sh_id b)
theorem ht_any : ∀ (k : Kd) (l s : Int), (anyTo l s k).ht ≤ 2 * k.dep + 1 ∧ (toAny l s k).ht ≤ 2 * k.dep + 1
  | .any, l, s => by simp [anyTo, toAny, Co.ht]
  | .int, l, s => by simp [anyTo, toAny, Co.ht]
  | .bool, l, s => by simp [anyTo, toAny, Co.ht]
  | .fn a b, l, s => by
    have h1 := ht_any a l (1 - s)
    have h2 := ht_any b l s
    simp only [anyTo, toAny, Co.ht, Kd.dep]
    omega
  | .pr a b, l, s => by
    have h1 := ht_any a l s
    have h2 := ht_any b l s
    simp only [anyTo, toAny, Co.ht, Kd.dep]
    omega
theorem ht_co : ∀ (a b : Kd) (l s : Int) (n : Nat), a.dep ≤ n → b.dep ≤ n → (co l s a b).ht ≤ 2 * n + 1 ∧ (co l s b a).ht ≤ 2 * n + 1 := by
  intro a
  induction a with
  | any => intro b l s n h1 h2; have := ht_any b l s; simp only [co_anyL, co_anyR]; omega
  | int =>
    intro b l s n h1 h2
    cases b with
    | any => have := ht_any .int l s; simp only [co_anyL, co_anyR]; simp only [Kd.dep] at this; omega
    | _ => simp [co, Co.ht]
  | bool =>
    intro b l s n h1 h2
    cases b with
    | any => have := ht_any .bool l s; simp only [co_anyL, co_anyR]; simp only [Kd.dep] at this; omega
    | _ => simp [co, Co.ht]
  | fn x y ix iy =>
    intro b l s n h1 h2
    cases b with
    | any => have := ht_any (.fn x y) l s; simp only [co_anyL, co_anyR]; omega
    | fn c d =>
      simp only [Kd.dep] at h1 h2
      have i1 := ix c l (1 - s) (n - 1) (by omega) (by omega)
      have i2 := iy d l s (n - 1) (by omega) (by omega)
      simp only [co_fn, Co.ht]
      omega
    | _ => simp [co, Co.ht]
  | pr x y ix iy =>
    intro b l s n h1 h2
    cases b with
    | any => have := ht_any (.pr x y) l s; simp only [co_anyL, co_anyR]; omega
    | pr c d =>
      simp only [Kd.dep] at h1 h2
      have i1 := ix c l s (n - 1) (by omega) (by omega)
      have i2 := iy d l s (n - 1) (by omega) (by omega)
      simp only [co_pr, Co.ht]
      omega
    | _ => simp [co, Co.ht]
theorem ht_id : ∀ k : Kd, (idC k).ht ≤ k.dep
  | .any => Nat.le_refl _
  | .int => Nat.le_refl _
  | .bool => Nat.le_refl _
  | .fn a b => by have := ht_id a; have := ht_id b; simp only [idC, Co.ht, Kd.dep]; omega
  | .pr a b => by have := ht_id a; have := ht_id b; simp only [idC, Co.ht, Kd.dep]; omega
/-! ### algebra -/
theorem chk_ne {l s : Int} {t : Tg} {c : Co} (h : c ≠ .fail l s) : chk l s t c = .frm l s t c := if_neg h
theorem then_ids : ∀ {c : Co} {a b : Kd}, Sh c a b → thenC (idC a) c = c ∧ thenC c (idC b) = c := by
  intro c a b h
  induction h with
  | stay => simp [idC, thenC]
  | int => simp [idC, thenC]
  | bool => simp [idC, thenC]
  | fail l s a b => cases a <;> simp [idC, thenC]
  | fn r1 r2 i1 i2 => simp [idC, thenC, i1, i2]
  | pr r1 r2 i1 i2 => simp [idC, thenC, i1, i2]
  | @to x k h hx r i =>
    refine ⟨?_, by simp [idC, thenC]⟩
    cases k <;> simp [Kd.isAny] at h <;> simp [idC, thenC] <;> exact i.1
  | @frm x k l s t r hne i =>
    refine ⟨by simp [idC, thenC], ?_⟩
    simp only [thenC]
    rw [i.2, chk_ne hne]
theorem co_self : ∀ (a : Kd) (l s : Int), co l s a a = idC a
  | .any, l, s => by simp [anyTo, toAny, idC]
  | .int, l, s => by simp [idC]
  | .bool, l, s => by simp [idC]
  | .fn a b, l, s => by simp [idC, co_self a, co_self b]
  | .pr a b, l, s => by simp [idC, co_self a, co_self b]
theorem meet_comm : ∀ a b : Kd, agree a b = true → meet a b = meet b a := by
  intro a
  induction a <;> intro b <;> cases b <;> simp_all [agree, meet]
/-- by way of the kind that tells all -/
theorem co_meet : ∀ (a b : Kd) (l s : Int), agree a b = true → thenC (co l s a (meet a b)) (co l s (meet a b) b) = co l s a b ∧ thenC (co l s b (meet a b)) (co l s (meet a b) a) = co l s b a := by
  intro a
  induction a with
  | any =>
    intro b l s _
    simp only [meet_anyL, co_anyL, co_anyR, co_self]
    exact ⟨(then_ids (sh_any b l s).1).2, (then_ids (sh_any b l s).2).1⟩
  | int =>
    intro b l s h
    cases b <;> simp [agree] at h
    · simp only [meet_any, co_anyL, co_anyR, co_self]
      exact ⟨(then_ids (sh_any _ l s).2).1, (then_ids (sh_any _ l s).1).2⟩
    · simp [meet, thenC]
  | bool =>
    intro b l s h
    cases b <;> simp [agree] at h
    · simp only [meet_any, co_anyL, co_anyR, co_self]
      exact ⟨(then_ids (sh_any _ l s).2).1, (then_ids (sh_any _ l s).1).2⟩
    · simp [meet, thenC]
  | fn x y ix iy =>
    intro b l s h
    cases b <;> simp [agree] at h
    · simp only [meet_any, co_anyL, co_anyR, co_self]
      exact ⟨(then_ids (sh_any _ l s).2).1, (then_ids (sh_any _ l s).1).2⟩
    · rename_i c d
      have i1 := ix c l (1 - s) h.1
      have i2 := iy d l s h.2
      simp [meet, thenC, i1, i2]
  | pr x y ix iy =>
    intro b l s h
    cases b <;> simp [agree] at h
    · simp only [meet_any, co_anyL, co_anyR, co_self]
      exact ⟨(then_ids (sh_any _ l s).2).1, (then_ids (sh_any _ l s).1).2⟩
    · rename_i c d
      have i1 := ix c l s h.1
      have i2 := iy d l s h.2
      simp [meet, thenC, i1, i2]
/-! ### the program's -/
@[simp] theorem rep_0 (x : D) : binEv .mul (.tup [x]) (.int 0) = some (.val (.tup [])) := rfl
@[simp] theorem rep_2 (x : D) : binEv .mul (.tup [x]) (.int 2) = some (.val (.tup [x, x])) := rfl
structure HasCast (G : GE) : Prop extends HasCo G where
  ground : G.fns.lookup "ground" = some F_ground
  coerc : G.fns.lookup "coercion_of" = some F_coercion_of
section
variable {G : GE}
theorem ground_at (hf : HasCast G) {n : Nat} (hn : 1 ≤ n) (k : Kd) (h : k.isAny = false) (m : Mem) : callN G n "ground" [k.d] m = .ok (.val k.gr.d) m := by
  obtain ⟨j, rfl⟩ : ∃ j, n = j + 1 := ⟨n - 1, by omega⟩
  rw [callN_eq hf.ground rfl]
  cases k <;> simp [Kd.isAny] at h <;> simp [F_ground, startT, run_cons, List.replicate, lim_eq, hf.any.any, Kd.d, Kd.gr, Kd.tg, Tg.k]
theorem ident_at (hf : HasCast G) (hI : G.fns.lookup "identity" = some F_identity) : ∀ (n : Nat) (k : Kd) (m : Mem), k.dep < n → callN G n "identity" [k.d] m = .ok (.val (idC k).d) m
  | 0, _, _, h => by omega
  | n + 1, k, m, h => by
    have ih := ident_at hf hI n
    rw [callN_eq hI rfl]
    cases k <;> (try simp only [dep_fn, dep_pr] at h) <;>
      simp [F_identity, startT, run_cons, List.replicate, lim_eq, hf.any.any, hf.stay, hf.same, Kd.d, idC, Co.d, lc_cons, ih, h]
theorem coerc_base (hf : HasCast G) {n : Nat} (hn : 1 ≤ n) (l s : Int) (m : Mem) : callN G n "coercion_of" [Kd.int.d, Kd.int.d, .int l, .int s] m = .ok (.val Co.same.d) m ∧ callN G n "coercion_of" [Kd.bool.d, Kd.bool.d, .int l, .int s] m = .ok (.val Co.same.d) m ∧
    callN G n "coercion_of" [Kd.any.d, Kd.any.d, .int l, .int s] m = .ok (.val Co.stay.d) m := by
  obtain ⟨j, rfl⟩ : ∃ j, n = j + 1 := ⟨n - 1, by omega⟩
  refine ⟨?_, ?_, ?_⟩ <;> (rw [callN_eq hf.coerc rfl]; simp [F_coercion_of, startT, run_cons, List.replicate, lim_eq, hf.any.any, hf.stay, hf.same, Kd.isAny, Kd.head, Co.d])
theorem coerc_fn (hf : HasCast G) {n : Nat} {a b c d : Kd} {X Y : Co} {l s : Int} {m : Mem} (h1 : callN G n "coercion_of" [c.d, a.d, .int l, .int (1 - s)] m = .ok (.val X.d) m) (h2 : callN G n "coercion_of" [b.d, d.d, .int l, .int s] m = .ok (.val Y.d) m) :
    callN G (n + 1) "coercion_of" [(Kd.fn a b).d, (Kd.fn c d).d, .int l, .int s] m = .ok (.val (Co.fn X Y).d) m := by
  rw [callN_eq hf.coerc rfl]
  simp [F_coercion_of, startT, run_cons, List.replicate, lim_eq, hf.any.any, hf.stay, hf.same, Kd.isAny, Kd.head, h1, h2]
  rfl
theorem coerc_pr (hf : HasCast G) {n : Nat} {a b c d : Kd} {X Y : Co} {l s : Int} {m : Mem} (h1 : callN G n "coercion_of" [a.d, c.d, .int l, .int s] m = .ok (.val X.d) m) (h2 : callN G n "coercion_of" [b.d, d.d, .int l, .int s] m = .ok (.val Y.d) m) :
    callN G (n + 1) "coercion_of" [(Kd.pr a b).d, (Kd.pr c d).d, .int l, .int s] m = .ok (.val (Co.pr X Y).d) m := by
  rw [callN_eq hf.coerc rfl]
  simp [F_coercion_of, startT, run_cons, List.replicate, lim_eq, hf.any.any, hf.stay, hf.same, Kd.isAny, Kd.head, h1, h2, lc_cons]
  rfl
theorem coerc_from (hf : HasCast G) {n : Nat} {b : Kd} {X : Co} {l s : Int} {m : Mem} (hb : b.isAny = false) (hn : 1 ≤ n) (h1 : callN G n "coercion_of" [b.gr.d, b.d, .int l, .int s] m = .ok (.val X.d) m) (hX : X ≠ .fail l s) :
    callN G (n + 1) "coercion_of" [Kd.any.d, b.d, .int l, .int s] m = .ok (.val (Co.frm l s b.tg X).d) m := by
  have hg := ground_at hf hn b hb m
  have hc := checked_at hf.toHasCo hn l s b.tg X m
  rw [chk_ne hX] at hc
  have hh : b.head = b.tg.s := by cases b <;> first | rfl | cases hb
  rw [callN_eq hf.coerc rfl]
  simp [F_coercion_of, startT, run_cons, List.replicate, lim_eq, hf.any.any, hf.stay, hf.same, hb, hg, h1, hh, hc]
  simp [Kd.isAny]
theorem coerc_to (hf : HasCast G) {n : Nat} {b : Kd} {X : Co} {l s : Int} {m : Mem} (hb : b.isAny = false) (hn : 1 ≤ n) (h1 : callN G n "coercion_of" [b.d, b.gr.d, .int l, .int s] m = .ok (.val X.d) m) :
    callN G (n + 1) "coercion_of" [b.d, Kd.any.d, .int l, .int s] m = .ok (.val (Co.to b.tg X).d) m := by
  have hg := ground_at hf hn b hb m
  have hh : b.head = b.tg.s := by cases b <;> first | rfl | cases hb
  have ha : Kd.any.isAny = true := rfl
  rw [callN_eq hf.coerc rfl]
  simp [F_coercion_of, startT, run_cons, List.replicate, lim_eq, hf.any.any, hf.stay, hf.same, hb, hg, h1, hh, ha]
  rfl
theorem coerc_at (hf : HasCast G) : ∀ (d n : Nat) (a b : Kd) (l s : Int) (m : Mem), agree a b = true → a.dep ≤ d → b.dep ≤ d → 2 * d + 3 ≤ n → callN G n "coercion_of" [a.d, b.d, .int l, .int s] m = .ok (.val (co l s a b).d) m := by
  intro d
  induction d with
  | zero =>
    intro n a b l s m h h1 h2 hn
    obtain ⟨j, rfl⟩ : ∃ j, n = j + 1 := ⟨n - 1, by omega⟩
    have base := coerc_base hf (n := j) (by omega) l s m
    have base1 := coerc_base hf (n := j + 1) (by omega) l s m
    cases a <;> simp [Kd.dep] at h1 <;> cases b <;> simp [Kd.dep] at h2 <;> simp [agree] at h
    · simp only [co_anyL, anyTo]; exact base1.2.2
    · simp only [co_anyL, anyTo]; exact coerc_from hf (b := .int) rfl (by omega) base.1 (by simp)
    · simp only [co_anyL, anyTo]; exact coerc_from hf (b := .bool) rfl (by omega) base.2.1 (by simp)
    · simp only [co_anyR, toAny]; exact coerc_to hf (b := .int) rfl (by omega) base.1
    · simp only [co_int]; exact base1.1
    · simp only [co_anyR, toAny]; exact coerc_to hf (b := .bool) rfl (by omega) base.2.1
    · simp only [co_bool]; exact base1.2.1
  | succ d ih =>
    intro n a b l s m h h1 h2 hn
    obtain ⟨j, rfl⟩ : ∃ j, n = j + 1 + 1 := ⟨n - 2, by omega⟩
    have low : a.dep ≤ d → b.dep ≤ d → callN G (j + 1 + 1) "coercion_of" [a.d, b.d, .int l, .int s] m = .ok (.val (co l s a b).d) m := fun k1 k2 => ih _ a b l s m h k1 k2 (by omega)
    have st := fun (x y : Kd) (s : Int) (hx : agree x y = true) (k1 : x.dep ≤ d) (k2 : y.dep ≤ d) => ih j x y l s m hx k1 k2 (by omega)
    have st1 := fun (x y : Kd) (s : Int) (hx : agree x y = true) (k1 : x.dep ≤ d) (k2 : y.dep ≤ d) => ih (j + 1) x y l s m hx k1 k2 (by omega)
    have z : Kd.any.dep ≤ d := Nat.zero_le _
    cases a with
    | any =>
      cases b with
      | fn x y =>
        simp only [Kd.dep] at h2
        simp only [co_anyL, anyTo]
        have e := coerc_fn hf (st x .any (1 - s) (by simp) (by omega) z) (st .any y s (by simp) z (by omega))
        simp only [co_anyL, co_anyR] at e
        exact coerc_from hf (b := .fn x y) rfl (by omega) e (by simp)
      | pr x y =>
        simp only [Kd.dep] at h2
        simp only [co_anyL, anyTo]
        have e := coerc_pr hf (st .any x s (by simp) z (by omega)) (st .any y s (by simp) z (by omega))
        simp only [co_anyL, co_anyR] at e
        exact coerc_from hf (b := .pr x y) rfl (by omega) e (by simp)
      | _ => exact low (Nat.zero_le _) (Nat.zero_le _)
    | int => cases b <;> first | exact low (Nat.zero_le _) (Nat.zero_le _) | (simp [agree] at h)
    | bool => cases b <;> first | exact low (Nat.zero_le _) (Nat.zero_le _) | (simp [agree] at h)
    | fn x y =>
      simp only [Kd.dep] at h1
      cases b <;> simp [agree] at h
      · simp only [co_anyR, toAny]
        have e := coerc_fn hf (st .any x (1 - s) (by simp) z (by omega)) (st y .any s (by simp) (by omega) z)
        simp only [co_anyL, co_anyR] at e
        exact coerc_to hf (b := .fn x y) rfl (by omega) e
      · rename_i u v
        simp only [Kd.dep] at h2
        rw [co_fn]
        exact coerc_fn hf (st1 u x (1 - s) (by rw [agree_comm]; exact h.1) (by omega) (by omega)) (st1 y v s h.2 (by omega) (by omega))
    | pr x y =>
      simp only [Kd.dep] at h1
      cases b <;> simp [agree] at h
      · simp only [co_anyR, toAny]
        have e := coerc_pr hf (st x .any s (by simp) (by omega) z) (st y .any s (by simp) (by omega) z)
        simp only [co_anyL, co_anyR] at e
        exact coerc_to hf (b := .pr x y) rfl (by omega) e
      · rename_i u v
        simp only [Kd.dep] at h2
        rw [co_pr]
        exact coerc_pr hf (st1 x u s h.1 (by omega) (by omega)) (st1 y v s h.2 (by omega) (by omega))
end
end P3
set_option Elab.async false
set_option linter.all false
set_option maxRecDepth 100000
set_option maxHeartbeats 0
/-! P5C: judging coercions -/
namespace P3
open PySem L2
section
variable {m : Mem}
theorem in_tup (a : D) (ys : List D) : cmpEv .in_ a (.tup ys) = if (a.isData && D.areData ys && a.shal 100) = true then some (.bl (ys.any fun y => y.eqv a)) else none := by
  cases a <;> rfl
theorem nin_tup (a : D) (ys : List D) : cmpEv .nin a (.tup ys) = if (a.isData && D.areData ys && a.shal 100) = true then some (.bl (!ys.any fun y => y.eqv a)) else none := by
  cases a <;> rfl
theorem sh_str (n : Nat) (x : String) : D.shal n (.str x) = true := by cases n <;> rfl
@[simp] theorem in_s2 (x a b : String) : cmpEv .in_ (.str x) (.tup [.str a, .str b]) = some (.bl (a == x || b == x)) := by
  rw [in_tup]
  simp [D.isData, D.areData, sh_str, D.eqv]
@[simp] theorem in_s3 (x a b c : String) : cmpEv .in_ (.str x) (.tup [.str a, .str b, .str c]) = some (.bl (a == x || (b == x || c == x))) := by
  rw [in_tup]
  simp [D.isData, D.areData, sh_str, D.eqv]
@[simp] theorem in_s4 (x a b c d : String) : cmpEv .in_ (.str x) (.tup [.str a, .str b, .str c, .str d]) = some (.bl (a == x || (b == x || (c == x || d == x)))) := by
  rw [in_tup]
  simp [D.isData, D.areData, sh_str, D.eqv]
@[simp] theorem nin_s4 (x a b c d : String) : cmpEv .nin (.str x) (.tup [.str a, .str b, .str c, .str d]) = some (.bl (!(a == x || (b == x || (c == x || d == x))))) := by
  rw [nin_tup]
  simp [D.isData, D.areData, sh_str, D.eqv]
end
/-- labels, sides in bounds -/
def Co.lok : Co → Prop
  | .fail l s => 0 ≤ l ∧ l < 200 ∧ 0 ≤ s ∧ s ≤ 1
  | .frm l s _ c => (0 ≤ l ∧ l < 200 ∧ 0 ≤ s ∧ s ≤ 1) ∧ c.lok
  | .to _ c => c.lok
  | .fn a b => a.lok ∧ b.lok
  | .pr a b => a.lok ∧ b.lok
  | _ => True
structure HasJudge (G : GE) : Prop extends HasCast G where
  int_ : G.fns.lookup "is_integer" = some F_is_integer
  from_ : G.fns.lookup "is_from" = some F_is_from
  label : G.fns.lookup "is_label" = some F_is_label
  isco : G.fns.lookup "is_coercion" = some F_is_coercion
  check : G.fns.lookup "is_check" = some F_is_check
  tagging : G.fns.lookup "is_tagging" = some F_is_tagging
  head : G.fns.lookup "is_head" = some F_is_head
  largest : G.consts.lookup "LARGEST" = some (.int 200)
  heads : G.consts.lookup "HEADS" = some (.tup [.str "same", .str "fun", .str "pair"])
  tags : G.consts.lookup "TAGS" = some (.tup [.str "int", .str "bool", .str "fun", .str "pair"])
section
variable {G : GE}
theorem from_at (hf : HasJudge G) {n : Nat} (hn : 2 ≤ n) (v lo hi : Int) (m : Mem) : callN G n "is_from" [.int v, .int lo, .int hi] m = .ok (.val (.bl (decide (lo ≤ v) && decide (v ≤ hi)))) m := by
  obtain ⟨j, rfl⟩ : ∃ j, n = j + 1 + 1 := ⟨n - 2, by omega⟩
  have h1 : callN G (j + 1) "is_integer" [.int v] m = .ok (.val (.bl true)) m := by
    rw [callN_eq hf.int_ rfl]
    simp [F_is_integer, startT, run_cons, List.replicate]
  rw [callN_eq hf.from_ rfl]
  by_cases c : lo ≤ v <;> simp [F_is_from, startT, run_cons, List.replicate, h1, c]
theorem label_at (hf : HasJudge G) {n : Nat} (hn : 3 ≤ n) (l s : Int) (h : 0 ≤ l ∧ l < 200 ∧ 0 ≤ s ∧ s ≤ 1) (m : Mem) : callN G n "is_label" [.int l, .int s] m = .ok (.val (.bl true)) m := by
  obtain ⟨j, rfl⟩ : ∃ j, n = j + 1 := ⟨n - 1, by omega⟩
  rw [callN_eq hf.label rfl]
  have h1 := from_at hf (n := j) (by omega) l 0 199 m
  have h2 := from_at hf (n := j) (by omega) s 0 1 m
  have e1 : (decide (0 ≤ l) && decide (l ≤ 199)) = true := by simp; omega
  have e2 : (decide (0 ≤ s) && decide (s ≤ 1)) = true := by simp; omega
  rw [e1] at h1
  rw [e2] at h2
  simp [F_is_label, startT, run_cons, List.replicate, hf.largest, h1, h2]
theorem len_d (c : Co) : bfEv .len c.d = some (.val (.int (match c with
  | .stay => 1 | .same => 1 | .fail _ _ => 3 | .frm _ _ _ _ => 5 | .to _ _ => 3 | .fn _ _ => 3 | .pr _ _ => 3))) := by cases c <;> rfl
theorem isi_cd (c : Co) : isiEv .tuple c.d = some true := by cases c <;> rfl
theorem isco_at (hf : HasJudge G) : ∀ {c : Co} {a b : Kd}, Sh c a b → c.lok → ∀ {n : Nat}, 2 * c.ht + 6 ≤ n → a.dep < 200 → b.dep < 200 → ∀ m, callN G n "is_coercion" [c.d, a.d, b.d] m = .ok (.val (.bl true)) m := by
  intro c a b h
  induction h with
  | stay =>
    intro _ n hn _ _ m
    obtain ⟨j, rfl⟩ : ∃ j, n = j + 1 := ⟨n - 1, by omega⟩
    rw [callN_eq hf.isco rfl]
    simp [F_is_coercion, startT, run_cons, List.replicate, isi_cd, len_d, hf.any.any, Kd.isAny]
  | int =>
    intro _ n hn _ _ m
    obtain ⟨j, rfl⟩ : ∃ j, n = j + 1 + 1 := ⟨n - 2, by omega⟩
    have h1 : callN G (j + 1) "is_head" [Co.same.d, Kd.int.d, Kd.int.d] m = .ok (.val (.bl true)) m := by
      rw [callN_eq hf.head rfl]
      simp [F_is_head, startT, run_cons, List.replicate, lim_eq, len_d, Kd.head, eqD_kd Kd.int Kd.int (by decide)]
    rw [callN_eq hf.isco rfl]
    simp [F_is_coercion, startT, run_cons, List.replicate, isi_cd, len_d, hf.any.any, hf.heads, h1]
  | bool =>
    intro _ n hn _ _ m
    obtain ⟨j, rfl⟩ : ∃ j, n = j + 1 + 1 := ⟨n - 2, by omega⟩
    have h1 : callN G (j + 1) "is_head" [Co.same.d, Kd.bool.d, Kd.bool.d] m = .ok (.val (.bl true)) m := by
      rw [callN_eq hf.head rfl]
      simp [F_is_head, startT, run_cons, List.replicate, lim_eq, len_d, Kd.head, eqD_kd Kd.bool Kd.bool (by decide)]
    rw [callN_eq hf.isco rfl]
    simp [F_is_coercion, startT, run_cons, List.replicate, isi_cd, len_d, hf.any.any, hf.heads, h1]
  | fail l s a b =>
    intro hl n hn _ _ m
    obtain ⟨j, rfl⟩ : ∃ j, n = j + 1 := ⟨n - 1, by omega⟩
    have h1 := label_at hf (n := j) (by omega) l s hl m
    rw [callN_eq hf.isco rfl]
    simp [F_is_coercion, startT, run_cons, List.replicate, isi_cd, len_d, h1]
  | @fn x y a b c d r1 r2 i1 i2 =>
    intro hl n hn ha hb m
    simp only [Co.ht] at hn
    simp only [Kd.dep] at ha hb
    obtain ⟨j, rfl⟩ : ∃ j, n = j + 1 + 1 := ⟨n - 2, by omega⟩
    have e1 := i1 hl.1 (n := j) (by omega) (by omega) (by omega) m
    have e2 := i2 hl.2 (n := j) (by omega) (by omega) (by omega) m
    have h1 : callN G (j + 1) "is_head" [(Co.fn x y).d, (Kd.fn a b).d, (Kd.fn c d).d] m = .ok (.val (.bl true)) m := by
      rw [callN_eq hf.head rfl]
      simp [F_is_head, startT, run_cons, List.replicate, lim_eq, len_d, Kd.head, e1, e2]
    rw [callN_eq hf.isco rfl]
    simp [F_is_coercion, startT, run_cons, List.replicate, isi_cd, len_d, hf.any.any, hf.heads, h1]
  | @pr x y a b c d r1 r2 i1 i2 =>
    intro hl n hn ha hb m
    simp only [Co.ht] at hn
    simp only [Kd.dep] at ha hb
    obtain ⟨j, rfl⟩ : ∃ j, n = j + 1 + 1 := ⟨n - 2, by omega⟩
    have e1 := i1 hl.1 (n := j) (by omega) (by omega) (by omega) m
    have e2 := i2 hl.2 (n := j) (by omega) (by omega) (by omega) m
    have h1 : callN G (j + 1) "is_head" [(Co.pr x y).d, (Kd.pr a b).d, (Kd.pr c d).d] m = .ok (.val (.bl true)) m := by
      rw [callN_eq hf.head rfl]
      simp [F_is_head, startT, run_cons, List.replicate, lim_eq, len_d, Kd.head, e1, e2]
    rw [callN_eq hf.isco rfl]
    simp [F_is_coercion, startT, run_cons, List.replicate, isi_cd, len_d, hf.any.any, hf.heads, h1]
  | @to x k hk hx r i =>
    intro hl n hn ha hb m
    simp only [Co.ht] at hn
    obtain ⟨j, rfl⟩ : ∃ j, n = j + 1 + 1 := ⟨n - 2, by omega⟩
    have hg := ground_at hf.toHasCast (n := j) (by omega) k hk m
    have e1 := i hl (n := j) (by omega) (by omega) (by cases k <;> simp [Kd.gr, Kd.tg, Tg.k, Kd.dep]) m
    have hw : ("same" == x.w || ("fun" == x.w || "pair" == x.w)) = true := by
      clear e1 i
      have hg : k.gr.isAny = false := by cases k <;> rfl
      generalize k.gr = g at r hg
      cases r <;> first | rfl | cases hg | cases hk | cases hx
    have hh : k.head = k.tg.s := by cases k <;> first | rfl | cases hk
    have h1 : callN G (j + 1) "is_tagging" [(Co.to k.tg x).d, k.d] m = .ok (.val (.bl true)) m := by
      rw [callN_eq hf.tagging rfl]
      simp [F_is_tagging, startT, run_cons, List.replicate, len_d, hf.any.any, hf.heads, hk, hg, e1, hh, hw]
    rw [callN_eq hf.isco rfl]
    simp [F_is_coercion, startT, run_cons, List.replicate, isi_cd, len_d, hf.any.any, hf.heads, h1, Kd.isAny]
  | @frm x k l s t r hne i =>
    intro hl n hn ha hb m
    simp only [Co.ht] at hn
    obtain ⟨j, rfl⟩ : ∃ j, n = j + 1 + 1 := ⟨n - 2, by omega⟩
    have e1 := i hl.2 (n := j) (by omega) (by cases t <;> simp [Tg.k, Kd.dep]) hb m
    have h2 := label_at hf (n := j) (by omega) l s hl.1 m
    have h1 : callN G (j + 1) "is_check" [(Co.frm l s t x).d, k.d] m = .ok (.val (.bl true)) m := by
      have hin : cmpEv .nin (.str t.s) (.tup [.str "int", .str "bool", .str "fun", .str "pair"]) = some (.bl false) := by rw [nin_s4]; cases t <;> rfl
      have hw : (x.w == "stay") = false ∧ (x.w == "from") = false := by
        clear e1 i
        have hg : t.k.isAny = false := by cases t <;> rfl
        generalize t.k = g at r hg
        cases r <;> first | exact ⟨rfl, rfl⟩ | cases hg
      have hfst : ∀ m, evalE G.consts (callN G j) (.bin .add (.tup (.cons (.idx (.var 0) (.int 3)) .nil)) (.bin .mul (.tup (.cons (.glob "ANY") .nil)) (.ife (.cmp .in_ (.idx (.var 0) (.int 3)) (.tup (.cons (.str "fun") (.cons (.str "pair") .nil)))) (.int 2) (.int 0)))) [some (.val (Co.frm l s t x).d), some (.val k.d), none, none] m = .ok (.val t.k.d) m := by
        intro m
        cases t <;> simp [hf.any.any, lim_eq, Tg.s, Tg.k, Kd.d]
      have hend : ∀ m, evalE G.consts (callN G j) (.or (.cmp .ne (.idx (.var 3) (.int 0)) (.str "fail")) (.one (.cmp .ne (.slc (.var 3) (.cons (.int 1) .nil) .nil) (.slc (.var 0) (.cons (.int 1) .nil) (.cons (.int 3) .nil))))) [some (.val (Co.frm l s t x).d), some (.val k.d), some (.val t.k.d), some (.val x.d)] m = .ok (.val (.bl true)) m := by
        intro m
        by_cases hfl : x.isFail = true
        · cases x <;> simp [Co.isFail] at hfl
          rename_i l' s'
          have s1 : slcEv (Co.fail l' s').d (some 1) none = some (.val (.tup [.int l', .int s'])) := rfl
          have s2 : slcEv (Co.frm l s t (.fail l' s')).d (some 1) (some 3) = some (.val (.tup [.int l, .int s])) := rfl
          have e3 : eqD (.tup [.int l', .int s']) (.tup [.int l, .int s]) = some false := by
            have : ¬ (l' = l ∧ s' = s) := fun ⟨z1, z2⟩ => hne (by rw [z1, z2])
            show some (D.eqv (.tup [.int l', .int s']) (.tup [.int l, .int s])) = _
            congr 1
            simp only [D.eqv, D.eqvs, Bool.and_true]
            by_cases h1 : l' = l
            · have h2 : ¬ s' = s := fun z => this ⟨h1, z⟩
              simp [h1, h2]
            · simp [h1]
          simp [s1, s2, e3]
        · have : (x.w == "fail") = false := by cases x <;> first | rfl | exact absurd rfl hfl
          simp [this]
      rw [callN_eq hf.check rfl]
      simp only [F_is_check]
      generalize hE1 : ME.bin .add (.tup (.cons (.idx (.var 0) (.int 3)) .nil)) (.bin .mul (.tup (.cons (.glob "ANY") .nil)) (.ife (.cmp .in_ (.idx (.var 0) (.int 3)) (.tup (.cons (.str "fun") (.cons (.str "pair") .nil)))) (.int 2) (.int 0))) = E1 at hfst ⊢
      generalize hE2 : ME.or (.cmp .ne (.idx (.var 3) (.int 0)) (.str "fail")) (.one (.cmp .ne (.slc (.var 3) (.cons (.int 1) .nil) .nil) (.slc (.var 0) (.cons (.int 1) .nil) (.cons (.int 3) .nil)))) = E2 at hend ⊢
      have hV : isVar E2 = false := by rw [← hE2]; rfl
      have hw1 : ("stay" == x.w) = false := by rw [Bool.beq_comm]; exact hw.1
      have hw2 : ("from" == x.w) = false := by rw [Bool.beq_comm]; exact hw.2
      simp [startT, run_cons, List.replicate, lim_eq, run_retE hV, h2, hf.tags, hin, hfst, hend, e1, hw1, hw2]
    rw [callN_eq hf.isco rfl]
    simp [F_is_coercion, startT, run_cons, List.replicate, isi_cd, len_d, hf.any.any, hf.heads, h1, Kd.isAny]
end
end P3
set_option Elab.async false
set_option linter.all false
set_option maxRecDepth 100000
set_option maxHeartbeats 0
/-! P5D: labels of coercions -/
namespace P3
open PySem L2
def Co.labs : Co → List (Int × Int)
  | .stay => []
  | .same => []
  | .fail l s => [(l, s)]
  | .frm l s _ c => sortP ((l, s) :: c.labs)
  | .to _ c => sortP c.labs
  | .fn a b => sortP (a.labs ++ b.labs)
  | .pr a b => sortP (a.labs ++ b.labs)
/-- just this label, either side -/
def Co.lab1 (l : Int) : Co → Prop
  | .fail k s => k = l ∧ (s = 0 ∨ s = 1)
  | .frm k s _ c => (k = l ∧ (s = 0 ∨ s = 1)) ∧ c.lab1 l
  | .to _ c => c.lab1 l
  | .fn a b => a.lab1 l ∧ b.lab1 l
  | .pr a b => a.lab1 l ∧ b.lab1 l
  | _ => True
def Rng (ps : List (Int × Int)) : Prop := ∀ r ∈ ps, 0 ≤ r.1 ∧ r.1 < 1000 ∧ 0 ≤ r.2 ∧ r.2 < 1000
def In1 (l : Int) (ps : List (Int × Int)) : Prop := ∀ p ∈ ps, p = (l, 0) ∨ p = (l, 1)
theorem In1.rng {l : Int} {ps : List (Int × Int)} (h : In1 l ps) (h1 : 0 ≤ l) (h2 : l < 200) : Rng ps := fun p hp => by
  rcases h p hp with rfl | rfl <;> simp <;> omega
theorem In1.append {l : Int} {ps qs : List (Int × Int)} (h : In1 l ps) (h' : In1 l qs) : In1 l (ps ++ qs) := fun p hp => (List.mem_append.mp hp).elim (h p) (h' p)
theorem In1.sort {l : Int} {ps : List (Int × Int)} (h : In1 l ps) (h1 : 0 ≤ l) (h2 : l < 200) : In1 l (sortP ps) := fun p hp => h p ((sortP_mem ps (h.rng h1 h2) p).mp hp)
theorem two_len {l : Int} : ∀ {ps : List (Int × Int)}, ps.Pairwise (fun a b => ltP a b = true) → In1 l ps → ps.length ≤ 2
  | [], _, _ => by simp
  | [_], _, _ => by simp
  | [_, _], _, _ => by simp
  | a :: b :: c :: r, h, hi => by
    exfalso
    simp only [List.pairwise_cons, List.mem_cons] at h
    have ab := h.1 b (.inl rfl)
    have bc := h.2.1 c (.inl rfl)
    simp only [ltP, decide_eq_true_eq] at ab bc
    have i1 := hi a (by simp)
    have i2 := hi b (by simp)
    have i3 := hi c (by simp)
    rcases i1 with rfl | rfl <;> rcases i2 with rfl | rfl <;> rcases i3 with rfl | rfl <;> simp at ab bc <;> omega
theorem sort_len {l : Int} {ps : List (Int × Int)} (h : In1 l ps) (h1 : 0 ≤ l) (h2 : l < 200) : (sortP ps).length ≤ 2 := two_len (sortP_sorted ps (h.rng h1 h2)) (h.sort h1 h2)
theorem labs_in : ∀ {c : Co} {l : Int}, c.lab1 l → 0 ≤ l → l < 200 → In1 l c.labs ∧ c.labs.length ≤ 2
  | .stay, _, _, _, _ => ⟨(fun p hp => by cases hp), by simp [Co.labs]⟩
  | .same, _, _, _, _ => ⟨(fun p hp => by cases hp), by simp [Co.labs]⟩
  | .fail k s, l, h, _, _ => by
    obtain ⟨rfl, h⟩ := h
    refine ⟨fun p hp => ?_, by simp [Co.labs]⟩
    simp only [Co.labs, List.mem_cons, List.not_mem_nil, or_false] at hp
    subst hp
    rcases h with rfl | rfl
    · exact .inl rfl
    · exact .inr rfl
  | .frm k s t c, l, h, h1, h2 => by
    obtain ⟨⟨rfl, hs⟩, hc⟩ := h
    have i := (labs_in hc h1 h2).1
    have j : In1 k ((k, s) :: c.labs) := fun p hp => by
      rcases List.mem_cons.mp hp with rfl | hp
      · rcases hs with rfl | rfl
        · exact .inl rfl
        · exact .inr rfl
      · exact i p hp
    exact ⟨j.sort h1 h2, sort_len j h1 h2⟩
  | .to t c, l, h, h1, h2 => by
    have i := (labs_in (c := c) h h1 h2).1
    exact ⟨i.sort h1 h2, sort_len i h1 h2⟩
  | .fn a b, l, h, h1, h2 => by
    have i := (labs_in h.1 h1 h2).1.append (labs_in h.2 h1 h2).1
    exact ⟨i.sort h1 h2, sort_len i h1 h2⟩
  | .pr a b, l, h, h1, h2 => by
    have i := (labs_in h.1 h1 h2).1.append (labs_in h.2 h1 h2).1
    exact ⟨i.sort h1 h2, sort_len i h1 h2⟩
theorem pairsOf_map : ∀ {ps : List (Int × Int)}, Rng ps → pairsOf (ps.map pairD) = some ps
  | [], _ => rfl
  | p :: ps, h => by
    have hp := h p List.mem_cons_self
    show (if 0 ≤ p.1 ∧ p.1 < 1000 ∧ 0 ≤ p.2 ∧ p.2 < 1000 then (pairsOf (ps.map pairD)).map ((p.1, p.2) :: ·) else none) = _
    rw [if_pos hp, pairsOf_map fun r hr => h r (List.mem_cons_of_mem _ hr)]
    rfl
theorem sset_map {ps : List (Int × Int)} (h : Rng ps) (hl : ps.length < 64) : ssetEv (.fl (ps.map pairD)) = some (.own (.lst ((sortP ps).map pairD))) := by
  show (if (ps.map pairD).length < 64 then (pairsOf (ps.map pairD)).map _ else none) = _
  rw [if_pos (by rw [List.length_map]; exact hl), pairsOf_map h]
  rfl
structure HasLabs (G : GE) : Prop where
  parts : G.fns.lookup "parts_of" = some F_parts_of
  labels : G.fns.lookup "labels_in" = some F_labels_in
def Co.subs : Co → List Co
  | .frm _ _ _ c => [c]
  | .to _ c => [c]
  | .fn a b => [a, b]
  | .pr a b => [a, b]
  | _ => []
section
variable {G : GE}
theorem parts_at (hf : G.fns.lookup "parts_of" = some F_parts_of) {n : Nat} (hn : 1 ≤ n) (c : Co) (m : Mem) : callN G n "parts_of" [c.d] m = .ok (.own (.lst (c.subs.map Co.d))) m := by
  obtain ⟨j, rfl⟩ : ∃ j, n = j + 1 := ⟨n - 1, by omega⟩
  rw [callN_eq hf rfl]
  have s1 : ∀ a b, slcEv (Co.fn a b).d (some 1) none = some (.val (.tup [a.d, b.d])) := fun _ _ => rfl
  have s2 : ∀ a b, slcEv (Co.pr a b).d (some 1) none = some (.val (.tup [a.d, b.d])) := fun _ _ => rfl
  have s3 : ∀ t c, idxEv (Co.to t c).d (.int (-1)) = some c.d := fun _ _ => rfl
  have s4 : ∀ l s t c, idxEv (Co.frm l s t c).d (.int (-1)) = some c.d := fun _ _ _ _ => rfl
  cases c <;> simp [F_parts_of, startT, run_cons, List.replicate, lim_eq, Co.subs, s1, s2, s3, s4]
theorem labs_at (hf : HasLabs G) : ∀ {c : Co} {l : Int}, c.lab1 l → 0 ≤ l → l < 200 → ∀ {n : Nat}, c.ht + 2 ≤ n → ∀ m, callN G n "labels_in" [c.d] m = .ok (.val (.tup (c.labs.map pairD))) m := by
  intro c
  have e13 : ∀ l s t c, slcEv (Co.frm l s t c).d (some 1) (some 3) = some (.val (pairD (l, s))) := fun _ _ _ _ => rfl
  have e13f : ∀ l s, slcEv (Co.fail l s).d (some 1) (some 3) = some (.val (pairD (l, s))) := fun _ _ => rfl
  have s0 : ssetEv (.fl []) = some (.own (.lst [])) := rfl
  induction c with
  | stay =>
    intro l h h1 h2 n hn m
    obtain ⟨j, rfl⟩ : ∃ j, n = j + 1 := ⟨n - 1, by omega⟩
    have hp := parts_at hf.parts (n := j) (by omega) .stay m
    rw [callN_eq hf.labels rfl]
    simp [F_labels_in, startT, run_cons, List.replicate, lim_eq, hp, Co.subs, Co.labs, s0]
  | same =>
    intro l h h1 h2 n hn m
    obtain ⟨j, rfl⟩ : ∃ j, n = j + 1 := ⟨n - 1, by omega⟩
    have hp := parts_at hf.parts (n := j) (by omega) .same m
    rw [callN_eq hf.labels rfl]
    simp [F_labels_in, startT, run_cons, List.replicate, lim_eq, hp, Co.subs, Co.labs, s0]
  | fail k s =>
    intro l h h1 h2 n hn m
    obtain ⟨j, rfl⟩ : ∃ j, n = j + 1 := ⟨n - 1, by omega⟩
    have hp := parts_at hf.parts (n := j) (by omega) (.fail k s) m
    have hs := sset_map (ps := [(k, s)]) ((labs_in (c := .fail k s) h h1 h2).1.rng h1 h2) (by simp)
    have e : sortP [(k, s)] = [(k, s)] := rfl
    rw [e] at hs
    simp only [List.map_cons, List.map_nil] at hs
    rw [callN_eq hf.labels rfl]
    simp [F_labels_in, startT, run_cons, List.replicate, lim_eq, hp, Co.subs, Co.labs, e13f, hs]
  | frm k s t c ih =>
    intro l h h1 h2 n hn m
    simp only [Co.ht] at hn
    obtain ⟨j, rfl⟩ : ∃ j, n = j + 1 := ⟨n - 1, by omega⟩
    have hp := parts_at hf.parts (n := j) (by omega) (.frm k s t c) m
    obtain ⟨i1, i2⟩ := labs_in h.2 h1 h2
    have r1 : In1 l ((k, s) :: c.labs) := fun p hp => by
      obtain ⟨⟨rfl, hs⟩, _⟩ := h
      rcases List.mem_cons.mp hp with rfl | hp
      · rcases hs with rfl | rfl
        · exact .inl rfl
        · exact .inr rfl
      · exact i1 p hp
    have hs := sset_map (ps := (k, s) :: c.labs) (r1.rng h1 h2) (by simp only [List.length_cons]; omega)
    simp only [List.map_cons] at hs
    have hi := ih h.2 h1 h2 (n := j) (by omega) m
    have hle : c.labs.length + 1 ≤ 1000000 := by omega
    have hle2 : 1 + c.labs.length ≤ 1000000 := by omega
    rw [callN_eq hf.labels rfl]
    simp [F_labels_in, startT, run_cons, List.replicate, lim_eq, hp, Co.subs, Co.labs, e13, hs, hi, for_cons, hle, hle2]
  | to t c ih =>
    intro l h h1 h2 n hn m
    simp only [Co.ht] at hn
    obtain ⟨j, rfl⟩ : ∃ j, n = j + 1 := ⟨n - 1, by omega⟩
    have hp := parts_at hf.parts (n := j) (by omega) (.to t c) m
    obtain ⟨i1, i2⟩ := labs_in (c := c) h h1 h2
    have hs := sset_map (ps := c.labs) (i1.rng h1 h2) (by omega)
    have hi := ih h h1 h2 (n := j) (by omega) m
    have hle : c.labs.length ≤ 1000000 := by omega
    rw [callN_eq hf.labels rfl]
    simp [F_labels_in, startT, run_cons, List.replicate, lim_eq, hp, Co.subs, Co.labs, hs, hi, for_cons, hle]
  | fn a b iha ihb =>
    intro l h h1 h2 n hn m
    simp only [Co.ht] at hn
    obtain ⟨j, rfl⟩ : ∃ j, n = j + 1 := ⟨n - 1, by omega⟩
    have hp := parts_at hf.parts (n := j) (by omega) (.fn a b) m
    obtain ⟨i1, i2⟩ := labs_in h.1 h1 h2
    obtain ⟨i3, i4⟩ := labs_in h.2 h1 h2
    have hs := sset_map (ps := a.labs ++ b.labs) ((i1.append i3).rng h1 h2) (by rw [List.length_append]; omega)
    rw [List.map_append] at hs
    have hi := iha h.1 h1 h2 (n := j) (by omega) m
    have hj := ihb h.2 h1 h2 (n := j) (by omega) m
    have hle : a.labs.length ≤ 1000000 := by omega
    have hle2 : a.labs.length + b.labs.length ≤ 1000000 := by omega
    rw [callN_eq hf.labels rfl]
    simp [F_labels_in, startT, run_cons, List.replicate, lim_eq, hp, Co.subs, Co.labs, hs, hi, hj, for_cons, hle, hle2]
  | pr a b iha ihb =>
    intro l h h1 h2 n hn m
    simp only [Co.ht] at hn
    obtain ⟨j, rfl⟩ : ∃ j, n = j + 1 := ⟨n - 1, by omega⟩
    have hp := parts_at hf.parts (n := j) (by omega) (.pr a b) m
    obtain ⟨i1, i2⟩ := labs_in h.1 h1 h2
    obtain ⟨i3, i4⟩ := labs_in h.2 h1 h2
    have hs := sset_map (ps := a.labs ++ b.labs) ((i1.append i3).rng h1 h2) (by rw [List.length_append]; omega)
    rw [List.map_append] at hs
    have hi := iha h.1 h1 h2 (n := j) (by omega) m
    have hj := ihb h.2 h1 h2 (n := j) (by omega) m
    have hle : a.labs.length ≤ 1000000 := by omega
    have hle2 : a.labs.length + b.labs.length ≤ 1000000 := by omega
    rw [callN_eq hf.labels rfl]
    simp [F_labels_in, startT, run_cons, List.replicate, lim_eq, hp, Co.subs, Co.labs, hs, hi, hj, for_cons, hle, hle2]
end
end P3
set_option Elab.async false
set_option linter.all false
set_option maxRecDepth 100000
set_option maxHeartbeats 0
/-! P5E: safe casts -/
namespace P3
open PySem L2
def Co.has (p : Int × Int) : Co → Prop
  | .fail l s => p = (l, s)
  | .frm l s _ c => p = (l, s) ∨ c.has p
  | .to _ c => c.has p
  | .fn a b => a.has p ∨ b.has p
  | .pr a b => a.has p ∨ b.has p
  | _ => False
theorem mem_labs : ∀ {c : Co} {l : Int}, c.lab1 l → 0 ≤ l → l < 200 → ∀ p, p ∈ c.labs ↔ c.has p
  | .stay, _, _, _, _, p => by simp [Co.labs, Co.has]
  | .same, _, _, _, _, p => by simp [Co.labs, Co.has]
  | .fail k s, _, _, _, _, p => by simp [Co.labs, Co.has]
  | .frm k s t c, l, h, h1, h2, p => by
    obtain ⟨⟨rfl, hs⟩, hc⟩ := h
    have i := (labs_in hc h1 h2).1
    have j : In1 k ((k, s) :: c.labs) := fun p hp => by
      rcases List.mem_cons.mp hp with rfl | hp
      · rcases hs with rfl | rfl
        · exact .inl rfl
        · exact .inr rfl
      · exact i p hp
    show p ∈ sortP _ ↔ _
    rw [sortP_mem _ (j.rng h1 h2), List.mem_cons, mem_labs hc h1 h2]
    rfl
  | .to t c, l, h, h1, h2, p => by
    have i := (labs_in (c := c) h h1 h2).1
    show p ∈ sortP _ ↔ _
    rw [sortP_mem _ (i.rng h1 h2), mem_labs (c := c) h h1 h2]
    rfl
  | .fn a b, l, h, h1, h2, p => by
    have i := (labs_in h.1 h1 h2).1.append (labs_in h.2 h1 h2).1
    show p ∈ sortP _ ↔ _
    rw [sortP_mem _ (i.rng h1 h2), List.mem_append, mem_labs h.1 h1 h2, mem_labs h.2 h1 h2]
    rfl
  | .pr a b, l, h, h1, h2, p => by
    have i := (labs_in h.1 h1 h2).1.append (labs_in h.2 h1 h2).1
    show p ∈ sortP _ ↔ _
    rw [sortP_mem _ (i.rng h1 h2), List.mem_append, mem_labs h.1 h1 h2, mem_labs h.2 h1 h2]
    rfl
def usafeAny : Kd → Bool
  | .fn a b => a.isAny && usafeAny b
  | .pr a b => usafeAny a && usafeAny b
  | _ => true
mutual
def vsafe : Kd → Kd → Bool
  | _, .any => true
  | .int, .int => true
  | .bool, .bool => true
  | .fn a b, .fn c d => usafe c a && vsafe b d
  | .pr a b, .pr c d => vsafe a c && vsafe b d
  | _, _ => false
termination_by a b => sizeOf a + sizeOf b
def usafe : Kd → Kd → Bool
  | .any, _ => true
  | a, .any => usafeAny a
  | .int, .int => true
  | .bool, .bool => true
  | .fn a b, .fn c d => vsafe c a && usafe b d
  | .pr a b, .pr c d => usafe a c && usafe b d
  | _, _ => false
termination_by a b => sizeOf a + sizeOf b
end
@[simp] theorem vs_any (a : Kd) : vsafe a .any = true := by cases a <;> simp [vsafe]
@[simp] theorem vs_anyL (b : Kd) : vsafe .any b = b.isAny := by cases b <;> simp [vsafe, Kd.isAny]
@[simp] theorem us_anyL (b : Kd) : usafe .any b = true := by cases b <;> simp [usafe]
@[simp] theorem us_any (a : Kd) : usafe a .any = usafeAny a := by cases a <;> simp [usafe, usafeAny]
@[simp] theorem vs_fn (a b c d : Kd) : vsafe (.fn a b) (.fn c d) = (usafe c a && vsafe b d) := by simp [vsafe]
@[simp] theorem us_fn (a b c d : Kd) : usafe (.fn a b) (.fn c d) = (vsafe c a && usafe b d) := by simp [usafe]
@[simp] theorem vs_pr (a b c d : Kd) : vsafe (.pr a b) (.pr c d) = (vsafe a c && vsafe b d) := by simp [vsafe]
@[simp] theorem us_pr (a b c d : Kd) : usafe (.pr a b) (.pr c d) = (usafe a c && usafe b d) := by simp [usafe]
/-! ### which labels -/
theorem lab1_any : ∀ (k : Kd) (l s : Int), s = 0 ∨ s = 1 → (anyTo l s k).lab1 l ∧ (toAny l s k).lab1 l
  | .any, l, s, h => ⟨True.intro, True.intro⟩
  | .int, l, s, h => ⟨⟨⟨rfl, h⟩, True.intro⟩, True.intro⟩
  | .bool, l, s, h => ⟨⟨⟨rfl, h⟩, True.intro⟩, True.intro⟩
  | .fn a b, l, s, h => by
    have h' : 1 - s = 0 ∨ 1 - s = 1 := by omega
    exact ⟨⟨⟨rfl, h⟩, (lab1_any a l (1 - s) h').2, (lab1_any b l s h).1⟩, (lab1_any a l (1 - s) h').1, (lab1_any b l s h).2⟩
  | .pr a b, l, s, h => ⟨⟨⟨rfl, h⟩, (lab1_any a l s h).1, (lab1_any b l s h).1⟩, (lab1_any a l s h).2, (lab1_any b l s h).2⟩
theorem has_any : ∀ (k : Kd) (l s : Int) (p : Int × Int), ((anyTo l s k).has p ↔ k.isAny = false ∧ p = (l, s)) ∧ ((toAny l s k).has p ↔ usafeAny k = false ∧ p = (l, 1 - s))
  | .any, l, s, p => by simp [anyTo, toAny, Co.has, Kd.isAny, usafeAny]
  | .int, l, s, p => by simp [anyTo, toAny, Co.has, Kd.isAny, usafeAny]
  | .bool, l, s, p => by simp [anyTo, toAny, Co.has, Kd.isAny, usafeAny]
  | .fn a b, l, s, p => by
    have h1 := has_any a l (1 - s) p
    have h2 := has_any b l s p
    have e : 1 - (1 - s) = s := by omega
    rw [e] at h1
    refine ⟨?_, ?_⟩
    · simp only [anyTo, Co.has, h1.2, h2.1, Kd.isAny]
      grind
    · simp only [toAny, Co.has, h1.1, h2.2, usafeAny, Bool.and_eq_false_iff]
      grind
  | .pr a b, l, s, p => by
    have h1 := has_any a l s p
    have h2 := has_any b l s p
    refine ⟨?_, ?_⟩
    · simp only [anyTo, Co.has, h1.1, h2.1, Kd.isAny]
      grind
    · simp only [toAny, Co.has, h1.2, h2.2, usafeAny, Bool.and_eq_false_iff]
      grind
theorem lab1_co : ∀ (a b : Kd) (l s : Int), s = 0 ∨ s = 1 → agree a b = true → (co l s a b).lab1 l ∧ (co l s b a).lab1 l := by
  intro a
  induction a with
  | any => intro b l s h _; simp only [co_anyL, co_anyR]; exact lab1_any b l s h
  | int =>
    intro b l s h g
    cases b <;> simp [agree] at g
    · simp only [co_anyL, co_anyR]; exact (lab1_any _ l s h).symm
    · simp [Co.lab1]
  | bool =>
    intro b l s h g
    cases b <;> simp [agree] at g
    · simp only [co_anyL, co_anyR]; exact (lab1_any _ l s h).symm
    · simp [Co.lab1]
  | fn x y ix iy =>
    intro b l s h g
    have h' : 1 - s = 0 ∨ 1 - s = 1 := by omega
    cases b <;> simp [agree] at g
    · simp only [co_anyL, co_anyR]; exact (lab1_any _ l s h).symm
    · rename_i c d
      simp only [co_fn]
      exact ⟨⟨(ix c l (1 - s) h' g.1).2, (iy d l s h g.2).1⟩, (ix c l (1 - s) h' g.1).1, (iy d l s h g.2).2⟩
  | pr x y ix iy =>
    intro b l s h g
    cases b <;> simp [agree] at g
    · simp only [co_anyL, co_anyR]; exact (lab1_any _ l s h).symm
    · rename_i c d
      simp only [co_pr]
      exact ⟨⟨(ix c l s h g.1).1, (iy d l s h g.2).1⟩, (ix c l s h g.1).2, (iy d l s h g.2).2⟩
theorem has_co : ∀ (a b : Kd) (l s : Int), agree a b = true →
    (((co l s a b).has (l, s) ↔ vsafe a b = false) ∧ ((co l s a b).has (l, 1 - s) ↔ usafe a b = false)) ∧ (((co l s b a).has (l, s) ↔ vsafe b a = false) ∧ ((co l s b a).has (l, 1 - s) ↔ usafe b a = false)) := by
  have n1 : ∀ s : Int, ¬ s = 1 - s := fun s => by omega
  have n2 : ∀ s : Int, ¬ 1 - s = s := fun s => by omega
  have any1 : ∀ (b : Kd) (l s : Int), (((co l s .any b).has (l, s) ↔ vsafe .any b = false) ∧ ((co l s .any b).has (l, 1 - s) ↔ usafe .any b = false)) ∧ (((co l s b .any).has (l, s) ↔ vsafe b .any = false) ∧ ((co l s b .any).has (l, 1 - s) ↔ usafe b .any = false)) := by
    intro b l s
    simp only [co_anyL, co_anyR, vs_any, vs_anyL, us_any, us_anyL, (has_any b l s _).1, (has_any b l s _).2, Prod.mk.injEq, true_and, n1, n2, and_false, and_true]
    simp
  intro a
  induction a with
  | any => intro b l s _; exact any1 b l s
  | int =>
    intro b l s g
    cases b <;> simp [agree] at g
    · exact (any1 .int l s).symm
    · simp [Co.has, vsafe, usafe]
  | bool =>
    intro b l s g
    cases b <;> simp [agree] at g
    · exact (any1 .bool l s).symm
    · simp [Co.has, vsafe, usafe]
  | fn x y ix iy =>
    intro b l s g
    cases b <;> simp [agree] at g
    · exact (any1 _ l s).symm
    · rename_i c d
      have i1 := ix c l (1 - s) g.1
      have i2 := iy d l s g.2
      have e : 1 - (1 - s) = s := by omega
      rw [e] at i1
      simp only [co_fn, Co.has, vs_fn, us_fn, i1, i2, Bool.and_eq_false_iff]
      simp
  | pr x y ix iy =>
    intro b l s g
    cases b <;> simp [agree] at g
    · exact (any1 _ l s).symm
    · rename_i c d
      have i1 := ix c l s g.1
      have i2 := iy d l s g.2
      simp only [co_pr, Co.has, vs_pr, us_pr, i1, i2, Bool.and_eq_false_iff]
      simp
/-! ### the law's -/
structure HasSafe (G : GE) : Prop where
  top : G.fns.lookup "_law_top" = some F__law_top
  us : G.fns.lookup "_law_use_safe" = some F__law_use_safe
  vs : G.fns.lookup "_law_value_safe" = some F__law_value_safe
theorem klen (k : Kd) : bfEv .len k.d = some (.val (.int (k.subs.length + 1 : Nat))) := by cases k <;> rfl
section
variable {G : GE}
theorem top_at (hf : HasSafe G) {n : Nat} (hn : 1 ≤ n) (k : Kd) (h : k.isAny = false) (m : Mem) : callN G n "_law_top" [k.d] m = .ok (.val k.gr.d) m := by
  obtain ⟨j, rfl⟩ : ∃ j, n = j + 1 := ⟨n - 1, by omega⟩
  rw [callN_eq hf.top rfl]
  cases k <;> simp [Kd.isAny] at h <;> simp [F__law_top, startT, run_cons, List.replicate, lim_eq, Kd.d, Kd.gr, Kd.tg, Tg.k, lc_cons]
theorem range11 : rangeOf 1 1 = [] := rfl
theorem range13 : rangeOf 1 3 = [.int 1, .int 2] := rfl
theorem mid1 : midInt 1 = true := by decide
theorem mid3 : midInt 3 = true := by decide
theorem vs_step (hf : HasSafe G) {n : Nat} {a b c d : Kd} {m : Mem} {u v : Bool} (h1 : callN G n "_law_use_safe" [c.d, a.d] m = .ok (.val (.bl u)) m) (h2 : callN G n "_law_value_safe" [b.d, d.d] m = .ok (.val (.bl v)) m) :
    callN G (n + 1) "_law_value_safe" [(Kd.fn a b).d, (Kd.fn c d).d] m = .ok (.val (.bl (u && v))) m := by
  rw [callN_eq hf.vs rfl]
  cases u <;> simp [F__law_value_safe, startT, run_cons, List.replicate, lim_eq, Kd.isAny, Kd.head, h1, h2]
theorem us_step (hf : HasSafe G) {n : Nat} {a b c d : Kd} {m : Mem} {u v : Bool} (h1 : callN G n "_law_value_safe" [c.d, a.d] m = .ok (.val (.bl u)) m) (h2 : callN G n "_law_use_safe" [b.d, d.d] m = .ok (.val (.bl v)) m) :
    callN G (n + 1) "_law_use_safe" [(Kd.fn a b).d, (Kd.fn c d).d] m = .ok (.val (.bl (u && v))) m := by
  rw [callN_eq hf.us rfl]
  cases u <;> simp [F__law_use_safe, startT, run_cons, List.replicate, lim_eq, Kd.isAny, Kd.head, h1, h2]
theorem vs_stepP (hf : HasSafe G) {n : Nat} {a b c d : Kd} {m : Mem} {u v : Bool} (h1 : callN G n "_law_value_safe" [a.d, c.d] m = .ok (.val (.bl u)) m) (h2 : callN G n "_law_value_safe" [b.d, d.d] m = .ok (.val (.bl v)) m) :
    callN G (n + 1) "_law_value_safe" [(Kd.pr a b).d, (Kd.pr c d).d] m = .ok (.val (.bl (u && v))) m := by
  rw [callN_eq hf.vs rfl]
  cases u <;> cases v <;> simp [F__law_value_safe, startT, run_cons, List.replicate, lim_eq, Kd.isAny, Kd.head, klen, Kd.subs, mid1, mid3, range13, lc_cons, h1, h2]
theorem us_stepP (hf : HasSafe G) {n : Nat} {a b c d : Kd} {m : Mem} {u v : Bool} (h1 : callN G n "_law_use_safe" [a.d, c.d] m = .ok (.val (.bl u)) m) (h2 : callN G n "_law_use_safe" [b.d, d.d] m = .ok (.val (.bl v)) m) :
    callN G (n + 1) "_law_use_safe" [(Kd.pr a b).d, (Kd.pr c d).d] m = .ok (.val (.bl (u && v))) m := by
  rw [callN_eq hf.us rfl]
  cases u <;> cases v <;> simp [F__law_use_safe, startT, run_cons, List.replicate, lim_eq, Kd.isAny, Kd.head, klen, Kd.subs, mid1, mid3, range13, lc_cons, h1, h2]
theorem us_stepA (hf : HasSafe G) {n : Nat} (hn : 1 ≤ n) {a : Kd} {m : Mem} {u : Bool} (ha : a.isAny = false) (h1 : callN G n "_law_use_safe" [a.d, a.gr.d] m = .ok (.val (.bl u)) m) : callN G (n + 1) "_law_use_safe" [a.d, Kd.any.d] m = .ok (.val (.bl u)) m := by
  have ht := top_at hf hn a ha m
  have hz : Kd.any.isAny = true := rfl
  rw [callN_eq hf.us rfl]
  simp [F__law_use_safe, startT, run_cons, List.replicate, lim_eq, ha, hz, ht, h1]
theorem safe_base (hf : HasSafe G) {n : Nat} (hn : 1 ≤ n) (a b : Kd) (m : Mem) : callN G n "_law_use_safe" [Kd.any.d, b.d] m = .ok (.val (.bl true)) m ∧ callN G n "_law_value_safe" [a.d, Kd.any.d] m = .ok (.val (.bl true)) m ∧
    (b.isAny = false → callN G n "_law_value_safe" [Kd.any.d, b.d] m = .ok (.val (.bl false)) m) ∧
    callN G n "_law_use_safe" [Kd.int.d, Kd.int.d] m = .ok (.val (.bl true)) m ∧ callN G n "_law_use_safe" [Kd.bool.d, Kd.bool.d] m = .ok (.val (.bl true)) m ∧
    callN G n "_law_value_safe" [Kd.int.d, Kd.int.d] m = .ok (.val (.bl true)) m ∧ callN G n "_law_value_safe" [Kd.bool.d, Kd.bool.d] m = .ok (.val (.bl true)) m := by
  obtain ⟨j, rfl⟩ : ∃ j, n = j + 1 := ⟨n - 1, by omega⟩
  refine ⟨?_, ?_, fun hb => ?_, ?_, ?_, ?_, ?_⟩
  · rw [callN_eq hf.us rfl]; simp [F__law_use_safe, startT, run_cons, List.replicate, lim_eq, Kd.isAny]
  · rw [callN_eq hf.vs rfl]; simp [F__law_value_safe, startT, run_cons, List.replicate, lim_eq, Kd.isAny]
  · rw [callN_eq hf.vs rfl]
    cases b <;> first | exact absurd hb (by decide) | simp [F__law_value_safe, startT, run_cons, List.replicate, lim_eq, Kd.isAny, Kd.head]
  · rw [callN_eq hf.us rfl]; simp [F__law_use_safe, startT, run_cons, List.replicate, lim_eq, Kd.isAny, Kd.head, klen, Kd.subs, mid1, range11]
  · rw [callN_eq hf.us rfl]; simp [F__law_use_safe, startT, run_cons, List.replicate, lim_eq, Kd.isAny, Kd.head, klen, Kd.subs, mid1, range11]
  · rw [callN_eq hf.vs rfl]; simp [F__law_value_safe, startT, run_cons, List.replicate, lim_eq, Kd.isAny, Kd.head, klen, Kd.subs, mid1, range11]
  · rw [callN_eq hf.vs rfl]; simp [F__law_value_safe, startT, run_cons, List.replicate, lim_eq, Kd.isAny, Kd.head, klen, Kd.subs, mid1, range11]
theorem safe_at (hf : HasSafe G) : ∀ (d n : Nat) (a b : Kd) (m : Mem), agree a b = true → a.dep ≤ d → b.dep ≤ d → 2 * d + 3 ≤ n → callN G n "_law_use_safe" [a.d, b.d] m = .ok (.val (.bl (usafe a b))) m ∧ callN G n "_law_value_safe" [a.d, b.d] m = .ok (.val (.bl (vsafe a b))) m := by
  intro d
  induction d with
  | zero =>
    intro n a b m h h1 h2 hn
    obtain ⟨j, rfl⟩ : ∃ j, n = j + 1 := ⟨n - 1, by omega⟩
    have b0 := fun a b => safe_base hf (n := j) (by omega) a b m
    have b1 := fun a b => safe_base hf (n := j + 1) (by omega) a b m
    cases a <;> simp [Kd.dep] at h1 <;> cases b <;> simp [Kd.dep] at h2 <;> simp [agree] at h
    · simp only [us_anyL, vs_any]; exact ⟨(b1 .any .any).1, (b1 .any .any).2.1⟩
    · simp only [us_anyL, vs_anyL]; exact ⟨(b1 .any .int).1, (b1 .any .int).2.2.1 rfl⟩
    · simp only [us_anyL, vs_anyL]; exact ⟨(b1 .any .bool).1, (b1 .any .bool).2.2.1 rfl⟩
    · simp only [us_any, vs_any]; exact ⟨us_stepA hf (by omega) rfl (b0 .any .any).2.2.2.1, (b1 .int .any).2.1⟩
    · simp [usafe, vsafe]; exact ⟨(b1 .any .any).2.2.2.1, (b1 .any .any).2.2.2.2.2.1⟩
    · simp only [us_any, vs_any]; exact ⟨us_stepA hf (by omega) rfl (b0 .any .any).2.2.2.2.1, (b1 .bool .any).2.1⟩
    · simp [usafe, vsafe]; exact ⟨(b1 .any .any).2.2.2.2.1, (b1 .any .any).2.2.2.2.2.2⟩
  | succ d ih =>
    intro n a b m h h1 h2 hn
    obtain ⟨j, rfl⟩ : ∃ j, n = j + 1 + 1 := ⟨n - 2, by omega⟩
    have low : a.dep ≤ d → b.dep ≤ d → _ := fun k1 k2 => ih (j + 1 + 1) a b m h k1 k2 (by omega)
    have st := fun (x y : Kd) (hx : agree x y = true) (k1 : x.dep ≤ d) (k2 : y.dep ≤ d) => ih j x y m hx k1 k2 (by omega)
    have st1 := fun (x y : Kd) (hx : agree x y = true) (k1 : x.dep ≤ d) (k2 : y.dep ≤ d) => ih (j + 1) x y m hx k1 k2 (by omega)
    have b1 := fun a b => safe_base hf (n := j + 1 + 1) (by omega) a b m
    have z : Kd.any.dep ≤ d := Nat.zero_le _
    cases a with
    | any =>
      refine ⟨by simp only [us_anyL]; exact (b1 .any b).1, ?_⟩
      simp only [vs_anyL]
      cases hb : b.isAny with
      | true => cases b <;> first | exact (b1 .any .any).2.1 | cases hb
      | false => exact (b1 .any b).2.2.1 hb
    | int => cases b <;> first | exact low (Nat.zero_le _) (Nat.zero_le _) | (simp [agree] at h)
    | bool => cases b <;> first | exact low (Nat.zero_le _) (Nat.zero_le _) | (simp [agree] at h)
    | fn x y =>
      simp only [Kd.dep] at h1
      cases b <;> simp [agree] at h
      · refine ⟨?_, by simp only [vs_any]; exact (b1 _ .any).2.1⟩
        have e := us_step hf (a := x) (b := y) (c := .any) (d := .any) (st .any x (by simp) z (by omega)).2 (st y .any (by simp) (by omega) z).1
        have e := us_stepA hf (by omega) (a := .fn x y) rfl e
        simpa [usafeAny] using e
      · rename_i u v
        simp only [Kd.dep] at h2
        have e1 := st1 u x (by rw [agree_comm]; exact h.1) (by omega) (by omega)
        have e2 := st1 y v h.2 (by omega) (by omega)
        rw [us_fn, vs_fn]
        exact ⟨us_step hf e1.2 e2.1, vs_step hf e1.1 e2.2⟩
    | pr x y =>
      simp only [Kd.dep] at h1
      cases b <;> simp [agree] at h
      · refine ⟨?_, by simp only [vs_any]; exact (b1 _ .any).2.1⟩
        have e := us_stepP hf (a := x) (b := y) (c := .any) (d := .any) (st x .any (by simp) (by omega) z).1 (st y .any (by simp) (by omega) z).1
        have e := us_stepA hf (by omega) (a := .pr x y) rfl e
        simpa [usafeAny] using e
      · rename_i u v
        simp only [Kd.dep] at h2
        have e1 := st1 x u h.1 (by omega) (by omega)
        have e2 := st1 y v h.2 (by omega) (by omega)
        rw [us_pr, vs_pr]
        exact ⟨us_stepP hf e1.1 e2.1, vs_stepP hf e1.2 e2.2⟩
end
end P3
set_option Elab.async false
set_option linter.all false
set_option maxRecDepth 100000
set_option maxHeartbeats 0
/-! P5G: by way of a kind that tells less -/
namespace P3
open PySem L2
theorem via_any : ∀ (a b : Kd) (l s : Int), agree a b = true → thenC (toAny l s a) (anyTo l s b) = co l s a b ∧ thenC (toAny l s b) (anyTo l s a) = co l s b a := by
  intro a
  induction a with
  | any => intro b l s _; simp only [co_anyL, co_anyR, toAny, anyTo]; exact ⟨by simp [thenC], (then_ids (sh_any b l s).2).2⟩
  | int =>
    intro b l s h
    cases b <;> simp [agree] at h
    · simp only [co_anyL, co_anyR]; exact ⟨by simp [toAny, anyTo, thenC], by simp [toAny, anyTo, thenC]⟩
    · simp [toAny, anyTo, thenC]
  | bool =>
    intro b l s h
    cases b <;> simp [agree] at h
    · simp only [co_anyL, co_anyR]; exact ⟨by simp [toAny, anyTo, thenC], by simp [toAny, anyTo, thenC]⟩
    · simp [toAny, anyTo, thenC]
  | fn x y ix iy =>
    intro b l s h
    cases b <;> simp [agree] at h
    · simp only [co_anyL, co_anyR]; exact ⟨by simp [toAny, anyTo, thenC], by simp [toAny, anyTo, thenC]⟩
    · rename_i c d
      have i1 := ix c l (1 - s) h.1
      have i2 := iy d l s h.2
      simp [toAny, anyTo, thenC, i1, i2]
  | pr x y ix iy =>
    intro b l s h
    cases b <;> simp [agree] at h
    · simp only [co_anyL, co_anyR]; exact ⟨by simp [toAny, anyTo, thenC], by simp [toAny, anyTo, thenC]⟩
    · rename_i c d
      have i1 := ix c l s h.1
      have i2 := iy d l s h.2
      simp [toAny, anyTo, thenC, i1, i2]
theorem via : ∀ (k a b : Kd) (l s : Int), agree a b = true → lesst k (meet a b) = true → thenC (co l s a k) (co l s k b) = co l s a b ∧ thenC (co l s b k) (co l s k a) = co l s b a := by
  intro k
  induction k with
  | any => intro a b l s h _; simp only [co_anyL, co_anyR]; exact via_any a b l s h
  | int =>
    intro a b l s h h2
    cases a <;> cases b <;> simp [agree] at h <;> simp [meet, lesst] at h2 <;> simp [co, toAny, anyTo, thenC, chk_ne]
  | bool =>
    intro a b l s h h2
    cases a <;> cases b <;> simp [agree] at h <;> simp [meet, lesst] at h2 <;> simp [co, toAny, anyTo, thenC, chk_ne]
  | fn x y ix iy =>
    intro a b l s h h2
    cases a <;> cases b <;> simp [agree] at h <;> simp [meet, lesst] at h2
    · rename_i c d
      have i1 := ix .any c l (1 - s) (by simp) (by simpa using h2.1)
      have i2 := iy .any d l s (by simp) (by simpa using h2.2)
      simp only [co_anyL, co_anyR] at i1 i2
      simp [co, toAny, anyTo, thenC, chk_ne, i1, i2]
    · rename_i c d
      have i1 := ix .any c l (1 - s) (by simp) (by simpa using h2.1)
      have i2 := iy .any d l s (by simp) (by simpa using h2.2)
      simp only [co_anyL, co_anyR] at i1 i2
      simp [co, toAny, anyTo, thenC, chk_ne, i1, i2]
    · rename_i c d e f
      have i1 := ix c e l (1 - s) h.1 h2.1
      have i2 := iy d f l s h.2 h2.2
      simp [thenC, i1, i2]
  | pr x y ix iy =>
    intro a b l s h h2
    cases a <;> cases b <;> simp [agree] at h <;> simp [meet, lesst] at h2
    · rename_i c d
      have i1 := ix .any c l s (by simp) (by simpa using h2.1)
      have i2 := iy .any d l s (by simp) (by simpa using h2.2)
      simp only [co_anyL, co_anyR] at i1 i2
      simp [co, toAny, anyTo, thenC, chk_ne, i1, i2]
    · rename_i c d
      have i1 := ix .any c l s (by simp) (by simpa using h2.1)
      have i2 := iy .any d l s (by simp) (by simpa using h2.2)
      simp only [co_anyL, co_anyR] at i1 i2
      simp [co, toAny, anyTo, thenC, chk_ne, i1, i2]
    · rename_i c d e f
      have i1 := ix c e l s h.1 h2.1
      have i2 := iy d f l s h.2 h2.2
      simp [thenC, i1, i2]
end P3
set_option Elab.async false
set_option linter.all false
set_option maxRecDepth 100000
set_option maxHeartbeats 0
/-! P6A: drifted kinds -/
namespace P3
open PySem L2
section
variable {G : GE}
theorem drift_ex (hf : HasDraw G) (hk : G.fns.lookup "_law_kind" = some F__law_kind) (hd : G.fns.lookup "_law_drift" = some F__law_drift) : ∀ (k : Kd) (d : Nat) {n : Nat}, k.dep + d + 5 ≤ n → ∀ {p : Pool}, p.Ok →
    ∃ (b : Kd) (q : Pool), q.Ok ∧ b.dep ≤ max k.dep d ∧ agree b k = true ∧ callN G n "_law_drift" [.loc 0, k.d, .int d] p.m = .ok (.val b.d) q.m := by
  intro k
  have mx : ∀ d : Nat, (if ((d : Int) - 1) > 0 then (d : Int) - 1 else 0) = ((d - 1 : Nat) : Int) := fun d => by split <;> omega
  have any_d : Kd.any.d = .tup [.str "any"] := rfl
  induction k with
  | any =>
    intro d n hn p hp
    obtain ⟨j, rfl⟩ : ∃ j, n = j + 1 := ⟨n - 1, by omega⟩
    rw [callN_eq hd rfl]
    have h0 := draw_at hf (n := j) (by omega) hp (k := 3) (by omega) (by omega)
    have hp1 := draw_ok hp 3
    have h1 := kind_at hf hk d (n := j) (by simp only [Kd.dep] at hn; omega) hp1
    by_cases c : 0 < (p.draw 3).1
    · exact ⟨(Pool.kind d (p.draw 3).2).1, (Pool.kind d (p.draw 3).2).2, kind_ok d hp1, Nat.le_trans (kind_dep d _) (Nat.le_max_right _ _), agree_any _, by simp [F__law_drift, startT, run_cons, List.replicate, lim_eq, h0, c, h1, Kd.isAny]⟩
    · exact ⟨.any, _, hp1, Nat.zero_le _, rfl, by simp [F__law_drift, startT, run_cons, List.replicate, lim_eq, h0, c, Kd.isAny]⟩
  | int =>
    intro d n hn p hp
    obtain ⟨j, rfl⟩ : ∃ j, n = j + 1 := ⟨n - 1, by omega⟩
    rw [callN_eq hd rfl]
    have h0 := draw_at hf (n := j) (by omega) hp (k := 4) (by omega) (by omega)
    have hp1 := draw_ok hp 4
    have s1 : slcEv Kd.int.d none (some 1) = some (.val (.tup [.str "int"])) := rfl
    have s2 : slcEv Kd.int.d (some 1) none = some (.val (.tup [])) := rfl
    by_cases c : (p.draw 4).1 = 0
    · exact ⟨.any, _, hp1, Nat.zero_le _, rfl, by simp [F__law_drift, startT, run_cons, List.replicate, lim_eq, h0, c, Kd.isAny, any_d]⟩
    · exact ⟨.int, _, hp1, Nat.zero_le _, rfl, by simp [F__law_drift, startT, run_cons, List.replicate, lim_eq, h0, c, Kd.isAny, s1, s2]; rfl⟩
  | bool =>
    intro d n hn p hp
    obtain ⟨j, rfl⟩ : ∃ j, n = j + 1 := ⟨n - 1, by omega⟩
    rw [callN_eq hd rfl]
    have h0 := draw_at hf (n := j) (by omega) hp (k := 4) (by omega) (by omega)
    have hp1 := draw_ok hp 4
    have s1 : slcEv Kd.bool.d none (some 1) = some (.val (.tup [.str "bool"])) := rfl
    have s2 : slcEv Kd.bool.d (some 1) none = some (.val (.tup [])) := rfl
    by_cases c : (p.draw 4).1 = 0
    · exact ⟨.any, _, hp1, Nat.zero_le _, rfl, by simp [F__law_drift, startT, run_cons, List.replicate, lim_eq, h0, c, Kd.isAny, any_d]⟩
    · exact ⟨.bool, _, hp1, Nat.zero_le _, rfl, by simp [F__law_drift, startT, run_cons, List.replicate, lim_eq, h0, c, Kd.isAny, s1, s2]; rfl⟩
  | fn x y ix iy =>
    intro d n hn p hp
    simp only [Kd.dep] at hn
    obtain ⟨j, rfl⟩ : ∃ j, n = j + 1 := ⟨n - 1, by omega⟩
    rw [callN_eq hd rfl]
    have h0 := draw_at hf (n := j) (by omega) hp (k := 4) (by omega) (by omega)
    have hp1 := draw_ok hp 4
    obtain ⟨b1, q1, o1, d1, a1, e1⟩ := ix (d - 1) (n := j) (by omega) hp1
    obtain ⟨b2, q2, o2, d2, a2, e2⟩ := iy (d - 1) (n := j) (by omega) o1
    have s1 : slcEv (Kd.fn x y).d none (some 1) = some (.val (.tup [.str "fun"])) := rfl
    have s2 : slcEv (Kd.fn x y).d (some 1) none = some (.val (.tup [x.d, y.d])) := rfl
    have m1 := mx d
    by_cases c : (p.draw 4).1 = 0
    · exact ⟨.any, _, hp1, Nat.zero_le _, rfl, by simp [F__law_drift, startT, run_cons, List.replicate, lim_eq, h0, c, Kd.isAny, any_d]⟩
    · refine ⟨.fn b1 b2, q2, o2, by simp only [Kd.dep]; omega, by simp [agree, a1, a2], ?_⟩
      have m2 : mxEv (.int 0) (.int ((d : Int) - 1)) = some (.int ((d - 1 : Nat) : Int)) := by rw [mx_int, mx]
      simp [F__law_drift, startT, run_cons, List.replicate, lim_eq, h0, c, Kd.isAny, s1, s2, lc_cons, -mx_int, m2, e1, e2]
      rfl
  | pr x y ix iy =>
    intro d n hn p hp
    simp only [Kd.dep] at hn
    obtain ⟨j, rfl⟩ : ∃ j, n = j + 1 := ⟨n - 1, by omega⟩
    rw [callN_eq hd rfl]
    have h0 := draw_at hf (n := j) (by omega) hp (k := 4) (by omega) (by omega)
    have hp1 := draw_ok hp 4
    obtain ⟨b1, q1, o1, d1, a1, e1⟩ := ix (d - 1) (n := j) (by omega) hp1
    obtain ⟨b2, q2, o2, d2, a2, e2⟩ := iy (d - 1) (n := j) (by omega) o1
    have s1 : slcEv (Kd.pr x y).d none (some 1) = some (.val (.tup [.str "pair"])) := rfl
    have s2 : slcEv (Kd.pr x y).d (some 1) none = some (.val (.tup [x.d, y.d])) := rfl
    have m1 := mx d
    by_cases c : (p.draw 4).1 = 0
    · exact ⟨.any, _, hp1, Nat.zero_le _, rfl, by simp [F__law_drift, startT, run_cons, List.replicate, lim_eq, h0, c, Kd.isAny, any_d]⟩
    · refine ⟨.pr b1 b2, q2, o2, by simp only [Kd.dep]; omega, by simp [agree, a1, a2], ?_⟩
      have m2 : mxEv (.int 0) (.int ((d : Int) - 1)) = some (.int ((d - 1 : Nat) : Int)) := by rw [mx_int, mx]
      simp [F__law_drift, startT, run_cons, List.replicate, lim_eq, h0, c, Kd.isAny, s1, s2, lc_cons, -mx_int, m2, e1, e2]
      rfl
end
end P3
set_option Elab.async false
set_option linter.all false
set_option maxRecDepth 100000
set_option maxHeartbeats 0
/-! P6B: what both tell; simpler kinds -/
namespace P3
open PySem L2
section
variable {G : GE}
theorem told_at (hf : G.fns.lookup "_law_told_by_both" = some F__law_told_by_both) : ∀ (n : Nat) (a b : Kd) (m : Mem), a.dep < n → callN G n "_law_told_by_both" [a.d, b.d] m = .ok (.val (shared a b).d) m
  | 0, _, _, _, h => by omega
  | n + 1, a, b, m, h => by
    have ih := told_at hf n
    have k1 := fun k : Kd => klen k
    rw [callN_eq hf rfl]
    have q1 : ∀ x y : Kd, slcEv (Kd.fn x y).d none (some 1) = some (.val (.tup [.str "fun"])) := fun _ _ => rfl
    have q2 : ∀ x y : Kd, slcEv (Kd.pr x y).d none (some 1) = some (.val (.tup [.str "pair"])) := fun _ _ => rfl
    have q3 : slcEv Kd.int.d none (some 1) = some (.val (.tup [.str "int"])) := rfl
    have q4 : slcEv Kd.bool.d none (some 1) = some (.val (.tup [.str "bool"])) := rfl
    have q5 : slcEv Kd.any.d none (some 1) = some (.val (.tup [.str "any"])) := rfl
    have any_d : Kd.any.d = .tup [.str "any"] := rfl
    cases a <;> cases b <;> (try simp only [dep_fn, dep_pr] at h) <;>
      simp [F__law_told_by_both, startT, run_cons, List.replicate, lim_eq, Kd.head, shared, klen, Kd.subs, mid1, mid3, range11, range13, lc_cons, q1, q2, q3, q4, q5, ih, h, any_d] <;> rfl
theorem simple_ex (hf : HasDraw G) (hd : G.fns.lookup "_law_simple" = some F__law_simple) : ∀ (k : Kd) {n : Nat}, k.dep + 3 ≤ n → ∀ {p : Pool}, p.Ok →
    ∃ (b : Kd) (q : Pool), q.Ok ∧ lesst b k = true ∧ b.dep ≤ k.dep ∧ callN G n "_law_simple" [.loc 0, k.d] p.m = .ok (.val b.d) q.m := by
  intro k
  have any_d : Kd.any.d = .tup [.str "any"] := rfl
  induction k with
  | any =>
    intro n hn p hp
    obtain ⟨j, rfl⟩ : ∃ j, n = j + 1 := ⟨n - 1, by omega⟩
    rw [callN_eq hd rfl]
    exact ⟨.any, p, hp, rfl, Nat.le_refl _, by simp [F__law_simple, startT, run_cons, List.replicate, lim_eq, Kd.isAny, any_d]⟩
  | int =>
    intro n hn p hp
    obtain ⟨j, rfl⟩ : ∃ j, n = j + 1 := ⟨n - 1, by omega⟩
    rw [callN_eq hd rfl]
    have h0 := draw_at hf (n := j) (by omega) hp (k := 4) (by omega) (by omega)
    have s1 : slcEv Kd.int.d none (some 1) = some (.val (.tup [.str "int"])) := rfl
    have s2 : slcEv Kd.int.d (some 1) none = some (.val (.tup [])) := rfl
    by_cases c : (p.draw 4).1 = 0
    · exact ⟨.any, _, draw_ok hp 4, rfl, Nat.le_refl _, by simp [F__law_simple, startT, run_cons, List.replicate, lim_eq, h0, c, Kd.isAny, any_d]⟩
    · exact ⟨.int, _, draw_ok hp 4, rfl, Nat.le_refl _, by simp [F__law_simple, startT, run_cons, List.replicate, lim_eq, h0, c, Kd.isAny, s1, s2]; rfl⟩
  | bool =>
    intro n hn p hp
    obtain ⟨j, rfl⟩ : ∃ j, n = j + 1 := ⟨n - 1, by omega⟩
    rw [callN_eq hd rfl]
    have h0 := draw_at hf (n := j) (by omega) hp (k := 4) (by omega) (by omega)
    have s1 : slcEv Kd.bool.d none (some 1) = some (.val (.tup [.str "bool"])) := rfl
    have s2 : slcEv Kd.bool.d (some 1) none = some (.val (.tup [])) := rfl
    by_cases c : (p.draw 4).1 = 0
    · exact ⟨.any, _, draw_ok hp 4, rfl, Nat.le_refl _, by simp [F__law_simple, startT, run_cons, List.replicate, lim_eq, h0, c, Kd.isAny, any_d]⟩
    · exact ⟨.bool, _, draw_ok hp 4, rfl, Nat.le_refl _, by simp [F__law_simple, startT, run_cons, List.replicate, lim_eq, h0, c, Kd.isAny, s1, s2]; rfl⟩
  | fn x y ix iy =>
    intro n hn p hp
    simp only [Kd.dep] at hn
    obtain ⟨j, rfl⟩ : ∃ j, n = j + 1 := ⟨n - 1, by omega⟩
    rw [callN_eq hd rfl]
    have h0 := draw_at hf (n := j) (by omega) hp (k := 4) (by omega) (by omega)
    obtain ⟨b1, q1, o1, l1, d1, e1⟩ := ix (n := j) (by omega) (draw_ok hp 4)
    obtain ⟨b2, q2, o2, l2, d2, e2⟩ := iy (n := j) (by omega) o1
    have s1 : slcEv (Kd.fn x y).d none (some 1) = some (.val (.tup [.str "fun"])) := rfl
    have s2 : slcEv (Kd.fn x y).d (some 1) none = some (.val (.tup [x.d, y.d])) := rfl
    by_cases c : (p.draw 4).1 = 0
    · exact ⟨.any, _, draw_ok hp 4, rfl, Nat.zero_le _, by simp [F__law_simple, startT, run_cons, List.replicate, lim_eq, h0, c, Kd.isAny, any_d]⟩
    · exact ⟨.fn b1 b2, q2, o2, by simp [lesst, l1, l2], by simp only [Kd.dep]; omega, by simp [F__law_simple, startT, run_cons, List.replicate, lim_eq, h0, c, Kd.isAny, s1, s2, lc_cons, e1, e2]; rfl⟩
  | pr x y ix iy =>
    intro n hn p hp
    simp only [Kd.dep] at hn
    obtain ⟨j, rfl⟩ : ∃ j, n = j + 1 := ⟨n - 1, by omega⟩
    rw [callN_eq hd rfl]
    have h0 := draw_at hf (n := j) (by omega) hp (k := 4) (by omega) (by omega)
    obtain ⟨b1, q1, o1, l1, d1, e1⟩ := ix (n := j) (by omega) (draw_ok hp 4)
    obtain ⟨b2, q2, o2, l2, d2, e2⟩ := iy (n := j) (by omega) o1
    have s1 : slcEv (Kd.pr x y).d none (some 1) = some (.val (.tup [.str "pair"])) := rfl
    have s2 : slcEv (Kd.pr x y).d (some 1) none = some (.val (.tup [x.d, y.d])) := rfl
    by_cases c : (p.draw 4).1 = 0
    · exact ⟨.any, _, draw_ok hp 4, rfl, Nat.zero_le _, by simp [F__law_simple, startT, run_cons, List.replicate, lim_eq, h0, c, Kd.isAny, any_d]⟩
    · exact ⟨.pr b1 b2, q2, o2, by simp [lesst, l1, l2], by simp only [Kd.dep]; omega, by simp [F__law_simple, startT, run_cons, List.replicate, lim_eq, h0, c, Kd.isAny, s1, s2, lc_cons, e1, e2]; rfl⟩
end
end P3
set_option Elab.async false
set_option linter.all false
set_option maxRecDepth 100000
set_option maxHeartbeats 0
/-! P6C: labels out of a few -/
namespace P3
open PySem L2
/-- a pair's label is of these, its side 0 or 1 -/
def InS (S : List Int) (ps : List (Int × Int)) : Prop := ∀ p ∈ ps, p.1 ∈ S ∧ (p.2 = 0 ∨ p.2 = 1)
def RngS (S : List Int) : Prop := ∀ l ∈ S, 0 ≤ l ∧ l < 200
theorem InS.rng {S : List Int} {ps : List (Int × Int)} (h : InS S ps) (hS : RngS S) : Rng ps := fun p hp => by
  obtain ⟨h1, h2⟩ := h p hp
  have := hS _ h1
  omega
theorem InS.append {S : List Int} {ps qs : List (Int × Int)} (h : InS S ps) (h' : InS S qs) : InS S (ps ++ qs) := fun p hp => (List.mem_append.mp hp).elim (h p) (h' p)
theorem InS.sort {S : List Int} {ps : List (Int × Int)} (h : InS S ps) (hS : RngS S) : InS S (sortP ps) := fun p hp => h p ((sortP_mem ps (h.rng hS) p).mp hp)
theorem nodup_len {α : Type} [DecidableEq α] : ∀ {xs ys : List α}, xs.Nodup → (∀ x ∈ xs, x ∈ ys) → xs.length ≤ ys.length
  | [], _, _, _ => Nat.zero_le _
  | x :: xs, ys, h, hs => by
    rw [List.nodup_cons] at h
    have hx := hs x List.mem_cons_self
    have : xs.length ≤ (ys.erase x).length := nodup_len h.2 fun y hy => by
      have hne : y ≠ x := fun e => h.1 (e ▸ hy)
      exact (List.mem_erase_of_ne hne).mpr (hs y (List.mem_cons_of_mem _ hy))
    rw [List.length_erase_of_mem hx] at this
    have := List.length_pos_of_mem hx
    simp only [List.length_cons]
    omega
theorem sortS_len {S : List Int} {ps : List (Int × Int)} (h : InS S ps) (hS : RngS S) : (sortP ps).length ≤ 2 * S.length := by
  have hs := sortP_sorted ps (h.rng hS)
  have nd : (sortP ps).Nodup := hs.imp fun {a b} hab e => by
    subst e
    simp [ltP] at hab
  have := nodup_len (ys := S.map (fun l => (l, (0 : Int))) ++ S.map (fun l => (l, (1 : Int)))) nd fun p hp => by
    obtain ⟨h1, h2⟩ := h.sort hS p hp
    obtain ⟨a, b⟩ := p
    rcases h2 with h2 | h2 <;> simp only at h1 h2 <;> subst h2 <;> simp [h1]
  simp only [List.length_append, List.length_map] at this
  omega
end P3
set_option Elab.async false
set_option linter.all false
set_option maxRecDepth 100000
set_option maxHeartbeats 0
/-! P6D: nothing new is blamed -/
namespace P3
open PySem L2
/-- its labels are of these -/
def Co.labS (S : List Int) : Co → Prop
  | .fail k s => k ∈ S ∧ (s = 0 ∨ s = 1)
  | .frm k s _ c => (k ∈ S ∧ (s = 0 ∨ s = 1)) ∧ c.labS S
  | .to _ c => c.labS S
  | .fn a b => a.labS S ∧ b.labS S
  | .pr a b => a.labS S ∧ b.labS S
  | _ => True
theorem labS_of : ∀ {c : Co} {l : Int} {S : List Int}, c.lab1 l → l ∈ S → c.labS S
  | .stay, _, _, _, _ => True.intro
  | .same, _, _, _, _ => True.intro
  | .fail k s, l, S, h, hl => by obtain ⟨rfl, h⟩ := h; exact ⟨hl, h⟩
  | .frm k s t c, l, S, h, hl => by obtain ⟨⟨rfl, h⟩, hc⟩ := h; exact ⟨⟨hl, h⟩, labS_of hc hl⟩
  | .to t c, l, S, h, hl => labS_of (c := c) h hl
  | .fn a b, l, S, h, hl => ⟨labS_of h.1 hl, labS_of h.2 hl⟩
  | .pr a b, l, S, h, hl => ⟨labS_of h.1 hl, labS_of h.2 hl⟩
theorem labS_chk {S : List Int} {l s : Int} {t : Tg} {c : Co} (h : l ∈ S ∧ (s = 0 ∨ s = 1)) (hc : c.labS S) : (chk l s t c).labS S := by
  unfold chk
  split
  · exact hc
  · exact ⟨h, hc⟩
theorem then_labS {S : List Int} : ∀ {x y : Co} {a b c : Kd}, Sh x a b → Sh y b c → x.labS S → y.labS S → (thenC x y).labS S := by
  intro x y
  induction hn : sizeOf x + sizeOf y using Nat.strongRecOn generalizing x y with
  | _ n ih =>
    intro a b c h1 h2 l1 l2
    subst hn
    cases h1 with
    | stay => simpa [thenC] using l2
    | fail l s a b => simpa [thenC] using l1
    | frm l s t r hne =>
      simp only [thenC]
      exact labS_chk l1.1 (ih _ (by simp; omega) rfl r h2 l1.2 l2)
    | int =>
      cases h2 with
      | int => simp [thenC, Co.labS]
      | fail l s a b => simpa [thenC] using l2
      | to h hx r =>
        simp only [thenC]
        exact ih _ (by simp; omega) rfl .int r True.intro l2
    | bool =>
      cases h2 with
      | bool => simp [thenC, Co.labS]
      | fail l s a b => simpa [thenC] using l2
      | to h hx r =>
        simp only [thenC]
        exact ih _ (by simp; omega) rfl .bool r True.intro l2
    | to h hx r =>
      cases h2 with
      | stay => simpa [thenC] using l1
      | fail l s a b => simpa [thenC] using l2
      | to h' hx' r' => exact absurd h' (by decide)
      | frm l s t r2 hne =>
        simp only [thenC]
        split
        · rename_i e
          subst e
          exact ih _ (by simp; omega) rfl r r2 l1 l2.2
        · exact l2.1
    | fn r1 r2 =>
      cases h2 with
      | fail l s a b => simpa [thenC] using l2
      | to h hx r =>
        simp only [thenC]
        exact ih _ (by simp; omega) rfl (.fn r1 r2) r l1 l2
      | fn r3 r4 =>
        simp only [thenC]
        exact ⟨ih _ (by simp; omega) rfl r3 r1 l2.1 l1.1, ih _ (by simp; omega) rfl r2 r4 l1.2 l2.2⟩
    | pr r1 r2 =>
      cases h2 with
      | fail l s a b => simpa [thenC] using l2
      | to h hx r =>
        simp only [thenC]
        exact ih _ (by simp; omega) rfl (.pr r1 r2) r l1 l2
      | pr r3 r4 =>
        simp only [thenC]
        exact ⟨ih _ (by simp; omega) rfl r1 r3 l1.1 l2.1, ih _ (by simp; omega) rfl r2 r4 l1.2 l2.2⟩
end P3
set_option Elab.async false
set_option linter.all false
set_option maxRecDepth 100000
set_option maxHeartbeats 0
/-! P6E: live labels -/
namespace P3
open PySem L2
def Co.pass : Co → Bool
  | .fail _ _ => false
  | .frm _ _ _ c => !c.isFail
  | _ => true
def Co.live : Co → List (Int × Int)
  | .stay => []
  | .same => []
  | .fail l s => [(l, s)]
  | .frm l s _ c => sortP ((l, s) :: c.live)
  | .to _ c => sortP c.live
  | .fn a b => sortP (a.live ++ (if b = a ∨ a.pass = true then b.live else []))
  | .pr a b => sortP (a.live ++ b.live)
theorem live_in : ∀ {c : Co} {S : List Int}, RngS S → c.labS S → InS S c.live ∧ c.live.length ≤ 2 * S.length + 1
  | .stay, _, _, _ => ⟨(fun p hp => by cases hp), by simp [Co.live]⟩
  | .same, _, _, _ => ⟨(fun p hp => by cases hp), by simp [Co.live]⟩
  | .fail k s, S, hS, h => by
    refine ⟨fun p hp => ?_, by simp [Co.live]⟩
    simp only [Co.live, List.mem_cons, List.not_mem_nil, or_false] at hp
    subst hp
    exact h
  | .frm k s t c, S, hS, h => by
    have i := (live_in hS h.2).1
    have j : InS S ((k, s) :: c.live) := fun p hp => by
      rcases List.mem_cons.mp hp with rfl | hp
      · exact h.1
      · exact i p hp
    exact ⟨j.sort hS, Nat.le_succ_of_le (sortS_len j hS)⟩
  | .to t c, S, hS, h => by
    have i := (live_in (c := c) hS h).1
    exact ⟨i.sort hS, Nat.le_succ_of_le (sortS_len i hS)⟩
  | .fn a b, S, hS, h => by
    have i1 := (live_in hS h.1).1
    have i2 := (live_in hS h.2).1
    have j : InS S (a.live ++ (if b = a ∨ a.pass = true then b.live else [])) := i1.append (by
      split
      · exact i2
      · intro p hp; cases hp)
    exact ⟨j.sort hS, Nat.le_succ_of_le (sortS_len j hS)⟩
  | .pr a b, S, hS, h => by
    have i := (live_in hS h.1).1.append (live_in hS h.2).1
    exact ⟨i.sort hS, Nat.le_succ_of_le (sortS_len i hS)⟩
end P3
namespace P3
open PySem L2
theorem eqv_tup (xs ys : List D) : D.eqv (.tup xs) (.tup ys) = D.eqvs xs ys := rfl
theorem eqv_str (x y : String) : D.eqv (.str x) (.str y) = (x == y) := rfl
theorem eqv_int (x y : Int) : D.eqv (.int x) (.int y) = (x == y) := rfl
theorem eqvs_nil : D.eqvs [] [] = true := rfl
theorem eqvs_cons (x y : D) (xs ys : List D) : D.eqvs (x :: xs) (y :: ys) = (D.eqv x y && D.eqvs xs ys) := rfl
theorem eqv_ne {x y : String} {xs ys : List D} (h : (x == y) = false) : D.eqv (.tup (.str x :: xs)) (.tup (.str y :: ys)) = false := by
  rw [eqv_tup, eqvs_cons, eqv_str, h, Bool.false_and]
theorem eqv_co : ∀ a b : Co, D.eqv a.d b.d = decide (a = b)
  | .stay, b => by cases b <;> first | rfl | (simp only [Co.d]; rw [eqv_ne (by decide)]; simp)
  | .same, b => by cases b <;> first | rfl | (simp only [Co.d]; rw [eqv_ne (by decide)]; simp)
  | .fail l s, b => by
    cases b <;> first | (simp only [Co.d]; rw [eqv_ne (by decide)]; simp; done) | skip
    simp only [Co.d, eqv_tup, eqvs_cons, eqvs_nil, eqv_str, eqv_int]
    simp
    grind
  | .frm l s t c, b => by
    cases b <;> first | (simp only [Co.d]; rw [eqv_ne (by decide)]; simp; done) | skip
    rename_i l' s' t' c'
    simp only [Co.d, eqv_tup, eqvs_cons, eqvs_nil, eqv_str, eqv_int, eqv_co c c', Tg.s_beq]
    simp
    grind
  | .to t c, b => by
    cases b <;> first | (simp only [Co.d]; rw [eqv_ne (by decide)]; simp; done) | skip
    rename_i t' c'
    simp only [Co.d, eqv_tup, eqvs_cons, eqvs_nil, eqv_str, eqv_int, eqv_co c c', Tg.s_beq]
    simp
  | .fn x y, b => by
    cases b <;> first | (simp only [Co.d]; rw [eqv_ne (by decide)]; simp; done) | skip
    rename_i x' y'
    simp only [Co.d, eqv_tup, eqvs_cons, eqvs_nil, eqv_str, eqv_co x x', eqv_co y y']
    simp
  | .pr x y, b => by
    cases b <;> first | (simp only [Co.d]; rw [eqv_ne (by decide)]; simp; done) | skip
    rename_i x' y'
    simp only [Co.d, eqv_tup, eqvs_cons, eqvs_nil, eqv_str, eqv_co x x', eqv_co y y']
    simp
end P3
set_option Elab.async false
set_option linter.all false
set_option maxRecDepth 100000
set_option maxHeartbeats 0
/-! P6G: live_labels -/
namespace P3
open PySem L2
theorem shal_co : ∀ (n : Nat) (c : Co), c.ht < n → c.d.shal n = true := by
  intro n
  induction n with
  | zero => intro c h; omega
  | succ n ih =>
    intro c h
    have si : ∀ i : Int, D.shal n (.int i) = true := fun i => by cases n <;> rfl
    cases c <;> (try simp only [Co.ht] at h) <;> simp [Co.d, shal_tup, shals_nil, shals_cons, shal_str, si]
    · exact ih _ (by omega)
    · exact ih _ (by omega)
    · exact ⟨ih _ (by omega), ih _ (by omega)⟩
    · exact ⟨ih _ (by omega), ih _ (by omega)⟩
theorem eqD_co (a b : Co) (h : a.ht < 200) : eqD a.d b.d = some (decide (a = b)) := by
  unfold eqD
  rw [a.data, b.data, shal_co deepest a h, eqv_co]
  rfl
structure HasLive (G : GE) : Prop where
  parts : G.fns.lookup "parts_of" = some F_parts_of
  passes : G.fns.lookup "passes" = some F_passes
  live : G.fns.lookup "live_labels" = some F_live_labels
section
variable {G : GE}
theorem pass_at (hf : HasLive G) {n : Nat} (hn : 1 ≤ n) (c : Co) (m : Mem) : callN G n "passes" [c.d] m = .ok (.val (.bl c.pass)) m := by
  obtain ⟨j, rfl⟩ : ∃ j, n = j + 1 := ⟨n - 1, by omega⟩
  rw [callN_eq hf.passes rfl]
  cases c with
  | frm l s t c =>
    have : (c.w == "fail") = c.isFail := by cases c <;> rfl
    cases hc : c.isFail <;> rw [hc] at this <;> simp [F_passes, startT, run_cons, List.replicate, lim_eq, Co.pass, hc, this]
    all_goals (simp at this; simp [this])
  | _ => simp [F_passes, startT, run_cons, List.replicate, lim_eq, Co.pass]
end
end P3
set_option Elab.async false
set_option linter.all false
set_option maxRecDepth 100000
set_option maxHeartbeats 0
/-! P6H: live_labels -/
namespace P3
open PySem L2
theorem then_ht : ∀ {x y : Co} {a b c : Kd}, Sh x a b → Sh y b c → (thenC x y).ht ≤ x.ht + y.ht := by
  intro x y
  induction hn : sizeOf x + sizeOf y using Nat.strongRecOn generalizing x y with
  | _ n ih =>
    intro a b c h1 h2
    subst hn
    cases h1 with
    | stay => simp [thenC, Co.ht]
    | fail l s a b => simp [thenC, Co.ht]
    | frm l s t r hne =>
      simp only [thenC]
      have := ih _ (by simp; omega) rfl r h2
      unfold chk
      split <;> simp only [Co.ht] <;> omega
    | int =>
      cases h2 with
      | int => simp [thenC, Co.ht]
      | fail l s a b => simp [thenC, Co.ht]
      | to h hx r =>
        simp only [thenC]
        have := ih _ (by simp; omega) rfl .int r
        simp only [Co.ht] at *; omega
    | bool =>
      cases h2 with
      | bool => simp [thenC, Co.ht]
      | fail l s a b => simp [thenC, Co.ht]
      | to h hx r =>
        simp only [thenC]
        have := ih _ (by simp; omega) rfl .bool r
        simp only [Co.ht] at *; omega
    | to h hx r =>
      cases h2 with
      | stay => simp [thenC, Co.ht]
      | fail l s a b => simp [thenC, Co.ht]
      | to h' hx' r' => exact absurd h' (by decide)
      | frm l s t r2 hne =>
        simp only [thenC]
        split
        · rename_i e
          subst e
          have := ih _ (by simp; omega) rfl r r2
          simp only [Co.ht] at *; omega
        · simp [Co.ht]
    | fn r1 r2 =>
      cases h2 with
      | fail l s a b => simp [thenC, Co.ht]
      | to h hx r =>
        simp only [thenC]
        have := ih _ (by simp; omega) rfl (.fn r1 r2) r
        simp only [Co.ht] at *; omega
      | fn r3 r4 =>
        simp only [thenC]
        have := ih _ (by simp; omega) rfl r3 r1
        have := ih _ (by simp; omega) rfl r2 r4
        simp only [Co.ht] at *; omega
    | pr r1 r2 =>
      cases h2 with
      | fail l s a b => simp [thenC, Co.ht]
      | to h hx r =>
        simp only [thenC]
        have := ih _ (by simp; omega) rfl (.pr r1 r2) r
        simp only [Co.ht] at *; omega
      | pr r3 r4 =>
        simp only [thenC]
        have := ih _ (by simp; omega) rfl r1 r3
        have := ih _ (by simp; omega) rfl r2 r4
        simp only [Co.ht] at *; omega
section
variable {G : GE}
theorem live_at (hf : HasLive G) {S : List Int} (hS : RngS S) (hl : S.length ≤ 12) : ∀ {c : Co}, c.labS S → c.ht < 200 → ∀ {n : Nat}, c.ht + 2 ≤ n → ∀ m, callN G n "live_labels" [c.d] m = .ok (.val (.tup (c.live.map pairD))) m := by
  intro c
  have e13 : ∀ l s t c, slcEv (Co.frm l s t c).d (some 1) (some 3) = some (.val (pairD (l, s))) := fun _ _ _ _ => rfl
  have e13f : ∀ l s, slcEv (Co.fail l s).d (some 1) (some 3) = some (.val (pairD (l, s))) := fun _ _ => rfl
  have s0 : ssetEv (.fl []) = some (.own (.lst [])) := rfl
  induction c with
  | stay =>
    intro h h1 n hn m
    obtain ⟨j, rfl⟩ : ∃ j, n = j + 1 := ⟨n - 1, by omega⟩
    have hp := parts_at hf.parts (n := j) (by omega) .stay m
    rw [callN_eq hf.live rfl]
    simp [F_live_labels, startT, run_cons, List.replicate, lim_eq, hp, Co.subs, Co.live, s0]
  | same =>
    intro h h1 n hn m
    obtain ⟨j, rfl⟩ : ∃ j, n = j + 1 := ⟨n - 1, by omega⟩
    have hp := parts_at hf.parts (n := j) (by omega) .same m
    rw [callN_eq hf.live rfl]
    simp [F_live_labels, startT, run_cons, List.replicate, lim_eq, hp, Co.subs, Co.live, s0]
  | fail k s =>
    intro h h1 n hn m
    obtain ⟨j, rfl⟩ : ∃ j, n = j + 1 := ⟨n - 1, by omega⟩
    have hp := parts_at hf.parts (n := j) (by omega) (.fail k s) m
    have hs := sset_map (ps := [(k, s)]) ((live_in (c := .fail k s) hS h).1.rng hS) (by simp)
    have e : sortP [(k, s)] = [(k, s)] := rfl
    rw [e] at hs
    simp only [List.map_cons, List.map_nil] at hs
    rw [callN_eq hf.live rfl]
    simp [F_live_labels, startT, run_cons, List.replicate, lim_eq, hp, Co.subs, Co.live, e13f, hs]
  | frm k s t c ih =>
    intro h h1 n hn m
    simp only [Co.ht] at hn h1
    obtain ⟨j, rfl⟩ : ∃ j, n = j + 1 := ⟨n - 1, by omega⟩
    have hp := parts_at hf.parts (n := j) (by omega) (.frm k s t c) m
    obtain ⟨i1, i2⟩ := live_in hS h.2
    have r1 : InS S ((k, s) :: c.live) := fun p hp => by
      rcases List.mem_cons.mp hp with rfl | hp
      · exact h.1
      · exact i1 p hp
    have hs := sset_map (ps := (k, s) :: c.live) (r1.rng hS) (by simp only [List.length_cons]; omega)
    simp only [List.map_cons] at hs
    have hi := ih h.2 (by omega) (n := j) (by omega) m
    have hle : c.live.length + 1 ≤ 1000000 := by omega
    have hle2 : 1 + c.live.length ≤ 1000000 := by omega
    rw [callN_eq hf.live rfl]
    simp [F_live_labels, startT, run_cons, List.replicate, lim_eq, hp, Co.subs, Co.live, e13, hs, hi, for_cons, hle, hle2]
  | to t c ih =>
    intro h h1 n hn m
    simp only [Co.ht] at hn h1
    obtain ⟨j, rfl⟩ : ∃ j, n = j + 1 := ⟨n - 1, by omega⟩
    have hp := parts_at hf.parts (n := j) (by omega) (.to t c) m
    obtain ⟨i1, i2⟩ := live_in (c := c) hS h
    have hs := sset_map (ps := c.live) (i1.rng hS) (by omega)
    have hi := ih h (by omega) (n := j) (by omega) m
    have hle : c.live.length ≤ 1000000 := by omega
    rw [callN_eq hf.live rfl]
    simp [F_live_labels, startT, run_cons, List.replicate, lim_eq, hp, Co.subs, Co.live, hs, hi, for_cons, hle]
  | fn a b iha ihb =>
    intro h h1 n hn m
    simp only [Co.ht] at hn h1
    obtain ⟨j, rfl⟩ : ∃ j, n = j + 1 := ⟨n - 1, by omega⟩
    have hp := parts_at hf.parts (n := j) (by omega) (.fn a b) m
    have hq := pass_at hf (n := j) (by omega) a m
    obtain ⟨i1, i2⟩ := live_in hS h.1
    obtain ⟨i3, i4⟩ := live_in hS h.2
    have hi := iha h.1 (by omega) (n := j) (by omega) m
    have hj := ihb h.2 (by omega) (n := j) (by omega) m
    have hle : a.live.length ≤ 1000000 := by omega
    have ea := eqD_co a a (by omega)
    have eb := eqD_co b a (by omega)
    rw [callN_eq hf.live rfl]
    by_cases c1 : b = a ∨ a.pass = true
    · have hs := sset_map (ps := a.live ++ b.live) ((i1.append i3).rng hS) (by rw [List.length_append]; omega)
      rw [List.map_append] at hs
      have hle2 : a.live.length + b.live.length ≤ 1000000 := by omega
      by_cases c2 : b = a
      · subst c2
        simp [F_live_labels, startT, run_cons, List.replicate, lim_eq, hp, Co.subs, Co.live, hs, hi, for_cons, hle, hle2, ea, hq]
      · have c3 : a.pass = true := c1.resolve_left c2
        rw [c3] at hq
        simp [F_live_labels, startT, run_cons, List.replicate, lim_eq, hp, Co.subs, Co.live, hs, hi, hj, for_cons, hle, hle2, ea, eb, c2, c3, hq]
    · have c2 : ¬ b = a := fun z => c1 (.inl z)
      have c3 : a.pass = false := by
        cases h : a.pass with
        | false => rfl
        | true => exact absurd (.inr h) c1
      rw [c3] at hq
      have hs := sset_map (ps := a.live) (i1.rng hS) (by omega)
      simp [F_live_labels, startT, run_cons, List.replicate, lim_eq, hp, Co.subs, Co.live, hs, hi, hj, for_cons, hle, ea, eb, c2, c3, hq]
  | pr a b iha ihb =>
    intro h h1 n hn m
    simp only [Co.ht] at hn h1
    obtain ⟨j, rfl⟩ : ∃ j, n = j + 1 := ⟨n - 1, by omega⟩
    have hp := parts_at hf.parts (n := j) (by omega) (.pr a b) m
    obtain ⟨i1, i2⟩ := live_in hS h.1
    obtain ⟨i3, i4⟩ := live_in hS h.2
    have hs := sset_map (ps := a.live ++ b.live) ((i1.append i3).rng hS) (by rw [List.length_append]; omega)
    rw [List.map_append] at hs
    have hi := iha h.1 (by omega) (n := j) (by omega) m
    have hj := ihb h.2 (by omega) (n := j) (by omega) m
    have hle : a.live.length ≤ 1000000 := by omega
    have hle2 : a.live.length + b.live.length ≤ 1000000 := by omega
    rw [callN_eq hf.live rfl]
    simp [F_live_labels, startT, run_cons, List.replicate, lim_eq, hp, Co.subs, Co.live, hs, hi, hj, for_cons, hle, hle2]
end
end P3
set_option Elab.async false
set_option linter.all false
set_option maxRecDepth 100000
set_option maxHeartbeats 0
/-! P6I: words for laws' ends -/
namespace P3
open PySem L2
section
variable {G : GE}
theorem kind_ex (hf : HasDraw G) (hk : G.fns.lookup "_law_kind" = some F__law_kind) (d : Nat) {n : Nat} (hn : d + 4 ≤ n) {p : Pool} (hp : p.Ok) : ∃ (k : Kd) (q : Pool), q.Ok ∧ k.dep ≤ d ∧ callN G n "_law_kind" [.loc 0, .int d] p.m = .ok (.val k.d) q.m :=
  ⟨_, _, kind_ok d hp, kind_dep d p, kind_at hf hk d hn hp⟩
theorem loose_ex (hf : HasDraw G) (hk : G.fns.lookup "_law_loose" = some F__law_loose) (k : Kd) {n : Nat} (hn : k.dep + 3 ≤ n) {p : Pool} (hp : p.Ok) : ∃ (l : Kd) (q : Pool), q.Ok ∧ l.dep ≤ k.dep ∧ callN G n "_law_loose" [.loc 0, k.d] p.m = .ok (.val l.d) q.m :=
  ⟨_, _, loose_ok k hp, loose_dep k p, loose_at hf hk k hn hp⟩
theorem pick_ex (hf : HasDraw G) {n : Nat} (hn : 3 ≤ n) {p : Pool} (hp : p.Ok) {ds : List D} (h1 : 0 < ds.length) (h2 : ds.length ≤ 1000) : ∃ (d : D) (q : Pool), q.Ok ∧ d ∈ ds ∧ callN G n "_law_pick" [.loc 0, .fl ds] p.m = .ok (.val d) q.m := by
  have hv := draw_lt (p := p) (n := (ds.length : Int)) (by omega)
  exact ⟨_, _, draw_ok hp _, getD_mem (by omega), pick_at hf hn hp h1 h2⟩
theorem draw_ex (hf : HasDraw G) {n : Nat} (hn : 2 ≤ n) {p : Pool} (hp : p.Ok) {k : Int} (h1 : 0 < k) (h2 : k < 1073741824) : ∃ (v : Int) (q : Pool), q.Ok ∧ 0 ≤ v ∧ v < k ∧ callN G n "_law_draw" [.loc 0, .int k] p.m = .ok (.val (.int v)) q.m :=
  ⟨_, _, draw_ok hp k, (draw_lt h1).1, (draw_lt h1).2, draw_at hf hn hp h1 h2⟩
theorem isNon_kd (k : Kd) : D.isNon k.d = false := by cases k <;> rfl
end
theorem same_co : ∀ c : Co, D.same c.d c.d = true := by
  intro c
  induction c <;> simp_all [Co.d, D.same, D.sames]
theorem fit_co : ∀ (n : Nat) (c : Co), c.ht < n → c.d.fit n = true := by
  intro n
  induction n with
  | zero => intro c h; omega
  | succ n ih =>
    intro c h
    cases c <;> (try simp only [Co.ht] at h) <;> simp [Co.d, fit_tup, fits_nil, fits_cons, fit_str, fit_int]
    · exact ih _ (by omega)
    · exact ih _ (by omega)
    · exact ⟨ih _ (by omega), ih _ (by omega)⟩
    · exact ⟨ih _ (by omega), ih _ (by omega)⟩
theorem lok_of : ∀ {c : Co} {l : Int}, c.lab1 l → 0 ≤ l → l < 200 → c.lok
  | .stay, _, _, _, _ => True.intro
  | .same, _, _, _, _ => True.intro
  | .fail k s, l, h, h1, h2 => by obtain ⟨rfl, h⟩ := h; exact ⟨h1, h2, by omega, by omega⟩
  | .frm k s t c, l, h, h1, h2 => by obtain ⟨⟨rfl, h⟩, hc⟩ := h; exact ⟨⟨h1, h2, by omega, by omega⟩, lok_of hc h1 h2⟩
  | .to t c, l, h, h1, h2 => lok_of (c := c) h h1 h2
  | .fn a b, l, h, h1, h2 => ⟨lok_of h.1 h1 h2, lok_of h.2 h1 h2⟩
  | .pr a b, l, h, h1, h2 => ⟨lok_of h.1 h1 h2, lok_of h.2 h1 h2⟩
theorem agree_meet : ∀ a b : Kd, agree a b = true → agree a (meet a b) = true ∧ agree (meet a b) b = true := by
  intro a
  induction a <;> intro b <;> cases b <;> simp_all [agree, meet, agree_self]
theorem in_labs (x y : Int) (ps : List (Int × Int)) : cmpEv .in_ (.tup [.int x, .int y]) (.tup (ps.map pairD)) = some (.bl (decide ((x, y) ∈ ps))) := by
  rw [in_tup]
  have h1 : D.areData (ps.map pairD) = true := by
    induction ps with
    | nil => rfl
    | cons p ps ih => simp [D.areData, pairD, D.isData, ih]
  have h2 : (D.tup [.int x, .int y]).isData = true := rfl
  have h3 : (D.tup [.int x, .int y]).shal 100 = true := rfl
  rw [h1, h2, h3]
  simp only [Bool.and_self, if_true, Option.some.injEq, D.bl.injEq]
  induction ps with
  | nil => rfl
  | cons p ps ih =>
    have ih := ih (by simpa [D.areData, pairD, D.isData] using h1)
    rw [List.map_cons, List.any_cons, ih]
    obtain ⟨a, b⟩ := p
    by_cases e : (x, y) = (a, b)
    · cases e; simp [pairD, D.eqv, D.eqvs]
    · have e2 : ¬ (a = x ∧ b = y) := fun ⟨z1, z2⟩ => e (by rw [z1, z2])
      have e3 : D.eqv (pairD (a, b)) (.tup [.int x, .int y]) = false := by
        simp only [pairD, D.eqv, D.eqvs, Bool.and_true]
        by_cases z : a = x
        · have : ¬ b = y := fun w => e2 ⟨z, w⟩
          simp [this]
        · simp [z]
      rw [e3]
      simp [e]
end P3
namespace P3
open PySem L2
theorem nin_i2 (x a b : Int) : cmpEv .nin (.int x) (.tup [.int a, .int b]) = some (.bl (!(a == x || b == x))) := by
  rw [nin_tup]
  have h : D.shal 100 (.int x) = true := rfl
  simp [D.isData, D.areData, h, D.eqv]
theorem fits_pairs (n : Nat) : ∀ ps : List (Int × Int), D.fits (n + 1) (ps.map pairD) = true
  | [] => by simp [fits_nil]
  | p :: ps => by rw [List.map_cons, fits_cons, fits_pairs n ps]; simp [pairD, fit_tup, fits_cons, fits_nil, fit_int]
theorem same_pairs : ∀ ps : List (Int × Int), D.sames (ps.map pairD) (ps.map pairD) = true
  | [] => rfl
  | p :: ps => by
    have ih := same_pairs ps
    simp [pairD, D.sames, D.same] at ih ⊢
    exact ih
end P3
set_option Elab.async false
set_option linter.all false
set_option maxRecDepth 100000
set_option maxHeartbeats 0
/-! P7A: putting together is associative; there and back -/
namespace P3
open PySem L2
@[simp] theorem isnt_bl (a b : Bool) : cmpEv .isnt (.bl a) (.bl b) = some (.bl (!(a == b))) := rfl
@[simp] theorem is_bl (a b : Bool) : cmpEv .is_ (.bl a) (.bl b) = some (.bl (a == b)) := rfl
theorem thenFailL (l s : Int) (c : Co) : thenC (.fail l s) c = .fail l s := by cases c <;> simp [thenC]
def Co.isM : Co → Bool
  | .same => true
  | .fn _ _ => true
  | .pr _ _ => true
  | _ => false
theorem M_fail {x : Co} (h : x.isM = true) (l s : Int) : thenC x (.fail l s) = .fail l s := by
  cases x <;> simp [Co.isM] at h <;> simp [thenC]
theorem M_to {x : Co} (h : x.isM = true) (t : Tg) (y : Co) : thenC x (.to t y) = .to t (thenC x y) := by
  cases x <;> simp [Co.isM] at h <;> simp [thenC]
theorem to_fail (t : Tg) (y : Co) (l s : Int) : thenC (.to t y) (.fail l s) = .fail l s := by simp [thenC]
theorem to_stay (t : Tg) (y : Co) : thenC (.to t y) .stay = .to t y := by simp [thenC]
theorem to_frm (t t' : Tg) (x y : Co) (l s : Int) : thenC (.to t x) (.frm l s t' y) = if t' = t then thenC x y else .fail l s := by simp [thenC]
theorem gr_any (k : Kd) : k.gr.isAny = false := by cases k <;> rfl
theorem tk_any (t : Tg) : t.k.isAny = false := by cases t <;> rfl
/-- from a kind that is not any -/
theorem sh_view {x : Co} {a b : Kd} (h : Sh x a b) (ha : a.isAny = false) : (∃ l s, x = .fail l s) ∨ (∃ y, x = .to a.tg y ∧ b = .any ∧ y.isFail = false ∧ Sh y a a.gr) ∨ (x.isM = true ∧ b.isAny = false) := by
  cases h with
  | stay => cases ha
  | int => exact .inr (.inr ⟨rfl, rfl⟩)
  | bool => exact .inr (.inr ⟨rfl, rfl⟩)
  | fail l s a b => exact .inl ⟨l, s, rfl⟩
  | fn r1 r2 => exact .inr (.inr ⟨rfl, rfl⟩)
  | pr r1 r2 => exact .inr (.inr ⟨rfl, rfl⟩)
  | to hk hx r => exact .inr (.inl ⟨_, rfl, rfl, hx, r⟩)
  | frm l s t r hne => cases ha
/-- from any -/
theorem sh_viewA {x : Co} {b : Kd} (h : Sh x .any b) : x = .stay ∧ b = .any ∨ (∃ l s, x = .fail l s) ∨ ∃ l s t y, x = .frm l s t y ∧ Sh y t.k b ∧ y ≠ .fail l s := by
  cases h with
  | stay => exact .inl ⟨rfl, rfl⟩
  | fail l s a b => exact .inr (.inl ⟨l, s, rfl⟩)
  | to hk hx r => cases hk
  | frm l s t r hne => exact .inr (.inr ⟨l, s, t, _, rfl, r, hne⟩)
/-- to a kind that is not any -/
theorem sh_M {x : Co} {a b : Kd} (h : Sh x a b) (ha : a.isAny = false) (hb : b.isAny = false) (hx : x.isFail = false) : x.isM = true := by
  rcases sh_view h ha with ⟨l, s, rfl⟩ | ⟨y, rfl, rfl, _⟩ | h
  · cases hx
  · cases hb
  · exact h.1
theorem then_M {x y : Co} {a b c : Kd} (h1 : Sh x a b) (h2 : Sh y b c) (m1 : x.isM = true) (m2 : y.isM = true) : (thenC x y).isM = true := by
  cases h1 <;> simp [Co.isM] at m1 <;> cases h2 <;> simp [Co.isM] at m2 <;> simp [thenC, Co.isM]
theorem then_assoc : ∀ {x y z : Co} {a b c d : Kd}, Sh x a b → Sh y b c → Sh z c d → thenC (thenC x y) z = thenC x (thenC y z) := by
  have H : ∀ (n : Nat) (x y z : Co) (a b c d : Kd), sizeOf x + sizeOf y + sizeOf z < n → Sh x a b → Sh y b c → Sh z c d → thenC (thenC x y) z = thenC x (thenC y z) := by
    intro n
    induction n with
    | zero => intro x y z a b c d h; omega
    | succ n ih =>
      intro x y z a b c d h h1 h2 h3
      by_cases ha : a.isAny = true
      · cases a <;> simp [Kd.isAny] at ha
        rcases sh_viewA h1 with ⟨rfl, _⟩ | ⟨l, s, rfl⟩ | ⟨l, s, t, x, rfl, r, hne⟩
        · simp [thenC]
        · simp [thenFailL]
        · simp only [Co.frm.sizeOf_spec] at h
          have i1 := ih x y z _ _ _ _ (by omega) r h2 h3
          simp only [thenC]
          rw [← i1]
          unfold chk
          by_cases e : thenC x y = .fail l s
          · rw [if_pos e, e, thenFailL, if_pos rfl]
          · rw [if_neg e]
            simp only [thenC]
            rfl
      · have ha : a.isAny = false := by simpa using ha
        rcases sh_view h1 ha with ⟨l, s, rfl⟩ | ⟨x, rfl, rfl, hx, r⟩ | ⟨m1, hb⟩
        · simp [thenFailL]
        · rcases sh_viewA h2 with ⟨rfl, rfl⟩ | ⟨l, s, rfl⟩ | ⟨l, s, t, y, rfl, r2, hne⟩
          · rw [to_stay]; simp [thenC]
          · rw [to_fail, thenFailL, to_fail]
          · simp only [Co.frm.sizeOf_spec, Co.to.sizeOf_spec] at h
            rw [to_frm]
            have e0 : thenC (.frm l s t y) z = chk l s t (thenC y z) := by simp [thenC]
            rw [e0]
            unfold chk
            have mx : x.isM = true := sh_M r ha (gr_any a) hx
            by_cases e : t = a.tg
            · subst e
              rw [if_pos rfl]
              have i1 := ih x y z _ _ _ _ (by omega) r r2 h3
              rw [i1]
              by_cases e : thenC y z = .fail l s
              · rw [if_pos e, e, M_fail mx, to_fail]
              · rw [if_neg e, to_frm, if_pos rfl]
            · rw [if_neg e, thenFailL]
              split
              · rename_i e2; rw [e2, to_fail]
              · rw [to_frm, if_neg e]
        · rcases sh_view h2 hb with ⟨l, s, rfl⟩ | ⟨y, rfl, rfl, hy, r⟩ | ⟨m2, hc⟩
          · rw [M_fail m1, thenFailL, M_fail m1]
          · rw [M_to m1]
            simp only [Co.to.sizeOf_spec] at h
            rcases sh_viewA h3 with ⟨rfl, rfl⟩ | ⟨l, s, rfl⟩ | ⟨l, s, t, z, rfl, r3, hne⟩
            · rw [to_stay, to_stay, M_to m1]
            · rw [to_fail, to_fail, M_fail m1]
            · simp only [Co.frm.sizeOf_spec] at h
              rw [to_frm, to_frm]
              by_cases e : t = b.tg
              · subst e
                rw [if_pos rfl, if_pos rfl]
                exact ih x y z _ _ _ _ (by omega) h1 r r3
              · rw [if_neg e, if_neg e, M_fail m1]
          · have m3 := then_M h1 h2 m1 m2
            rcases sh_view h3 hc with ⟨l, s, rfl⟩ | ⟨z, rfl, rfl, hz, r⟩ | ⟨m4, hd⟩
            · rw [M_fail m3, M_fail m2, M_fail m1]
            · rw [M_to m3, M_to m2, M_to m1]
              simp only [Co.to.sizeOf_spec] at h
              rw [ih x y z _ _ _ _ (by omega) h1 h2 r]
            · cases h1 <;> simp [Co.isM] at m1 <;> cases h2 <;> simp [Co.isM] at m2 <;> cases h3 <;> simp [Co.isM] at m4
              · simp [thenC]
              · simp [thenC]
              · simp only [Co.fn.sizeOf_spec] at h
                simp only [thenC]
                refine (congr (congrArg Co.fn ?_) ?_)
                · exact (ih _ _ _ _ _ _ _ (by omega) (by assumption) (by assumption) (by assumption)).symm
                · exact (ih _ _ _ _ _ _ _ (by omega) (by assumption) (by assumption) (by assumption))
              · simp only [Co.pr.sizeOf_spec] at h
                simp only [thenC]
                refine (congr (congrArg Co.pr ?_) ?_)
                · exact (ih _ _ _ _ _ _ _ (by omega) (by assumption) (by assumption) (by assumption))
                · exact (ih _ _ _ _ _ _ _ (by omega) (by assumption) (by assumption) (by assumption))
  intro x y z a b c d h1 h2 h3
  exact H _ _ _ _ _ _ _ _ (Nat.lt_succ_self _) h1 h2 h3
theorem same_tup (xs ys : List D) : D.same (.tup xs) (.tup ys) = D.sames xs ys := rfl
theorem same_str (x y : String) : D.same (.str x) (.str y) = (x == y) := rfl
theorem same_int (x y : Int) : D.same (.int x) (.int y) = (x == y) := rfl
theorem sames_nil : D.sames [] [] = true := rfl
theorem sames_cons (x y : D) (xs ys : List D) : D.sames (x :: xs) (y :: ys) = (D.same x y && D.sames xs ys) := rfl
theorem same_ne {x y : String} {xs ys : List D} (h : (x == y) = false) : D.same (.tup (.str x :: xs)) (.tup (.str y :: ys)) = false := by
  rw [same_tup, sames_cons, same_str, h, Bool.false_and]
theorem sameD_co : ∀ a b : Co, D.same a.d b.d = decide (a = b)
  | .stay, b => by cases b <;> first | rfl | (simp only [Co.d]; rw [same_ne (by decide)]; simp)
  | .same, b => by cases b <;> first | rfl | (simp only [Co.d]; rw [same_ne (by decide)]; simp)
  | .fail l s, b => by
    cases b <;> first | (simp only [Co.d]; rw [same_ne (by decide)]; simp; done) | skip
    simp only [Co.d, same_tup, sames_cons, sames_nil, same_str, same_int]
    simp
    grind
  | .frm l s t c, b => by
    cases b <;> first | (simp only [Co.d]; rw [same_ne (by decide)]; simp; done) | skip
    rename_i l' s' t' c'
    simp only [Co.d, same_tup, sames_cons, sames_nil, same_str, same_int, sameD_co c c', Tg.s_beq]
    simp
    grind
  | .to t c, b => by
    cases b <;> first | (simp only [Co.d]; rw [same_ne (by decide)]; simp; done) | skip
    rename_i t' c'
    simp only [Co.d, same_tup, sames_cons, sames_nil, same_str, same_int, sameD_co c c', Tg.s_beq]
    simp
  | .fn x y, b => by
    cases b <;> first | (simp only [Co.d]; rw [same_ne (by decide)]; simp; done) | skip
    rename_i x' y'
    simp only [Co.d, same_tup, sames_cons, sames_nil, same_str, sameD_co x x', sameD_co y y']
    simp
  | .pr x y, b => by
    cases b <;> first | (simp only [Co.d]; rw [same_ne (by decide)]; simp; done) | skip
    rename_i x' y'
    simp only [Co.d, same_tup, sames_cons, sames_nil, same_str, sameD_co x x', sameD_co y y']
    simp
theorem sh_chk {l s : Int} {t : Tg} {x : Co} {k : Kd} (h : Sh x t.k k) : Sh (chk l s t x) .any k := by
  unfold chk
  split
  · rename_i e; rw [e]; exact .fail l s _ _
  · exact .frm l s t h ‹_›
theorem M_notFail {x : Co} (h : x.isM = true) : x.isFail = false := by cases x <;> simp_all [Co.isM, Co.isFail]
theorem then_sh : ∀ {x y : Co} {a b c : Kd}, Sh x a b → Sh y b c → Sh (thenC x y) a c := by
  have H : ∀ (n : Nat) (x y : Co) (a b c : Kd), sizeOf x + sizeOf y < n → Sh x a b → Sh y b c → Sh (thenC x y) a c := by
    intro n
    induction n with
    | zero => intro x y a b c h; omega
    | succ n ih =>
      intro x y a b c h h1 h2
      by_cases ha : a.isAny = true
      · cases a <;> simp [Kd.isAny] at ha
        rcases sh_viewA h1 with ⟨rfl, rfl⟩ | ⟨l, s, rfl⟩ | ⟨l, s, t, x, rfl, r, hne⟩
        · simp only [thenC]; exact h2
        · rw [thenFailL]; exact .fail _ _ _ _
        · simp only [Co.frm.sizeOf_spec] at h
          simp only [thenC]
          exact sh_chk (ih _ _ _ _ _ (by omega) r h2)
      · have ha : a.isAny = false := by simpa using ha
        rcases sh_view h1 ha with ⟨l, s, rfl⟩ | ⟨x, rfl, rfl, hx, r⟩ | ⟨m1, hb⟩
        · rw [thenFailL]; exact .fail _ _ _ _
        · rcases sh_viewA h2 with ⟨rfl, rfl⟩ | ⟨l, s, rfl⟩ | ⟨l, s, t, y, rfl, r2, hne⟩
          · rw [to_stay]; exact h1
          · rw [to_fail]; exact .fail _ _ _ _
          · simp only [Co.frm.sizeOf_spec, Co.to.sizeOf_spec] at h
            rw [to_frm]
            by_cases e : t = a.tg
            · subst e; rw [if_pos rfl]; exact ih _ _ _ _ _ (by omega) r r2
            · rw [if_neg e]; exact .fail _ _ _ _
        · rcases sh_view h2 hb with ⟨l, s, rfl⟩ | ⟨y, rfl, rfl, hy, r⟩ | ⟨m2, hc⟩
          · rw [M_fail m1]; exact .fail _ _ _ _
          · rw [M_to m1]
            simp only [Co.to.sizeOf_spec] at h
            have hg : b.tg = a.tg ∧ b.gr = a.gr := by cases h1 <;> simp [Co.isM] at m1 <;> exact ⟨rfl, rfl⟩
            have my := sh_M r hb (gr_any b) hy
            rw [hg.1]
            refine .to ha (M_notFail (then_M h1 r m1 my)) ?_
            rw [← hg.2]
            exact ih _ _ _ _ _ (by omega) h1 r
          · cases h1 <;> simp [Co.isM] at m1 <;> cases h2 <;> simp [Co.isM] at m2
            · simp only [thenC]; exact .int
            · simp only [thenC]; exact .bool
            · simp only [Co.fn.sizeOf_spec] at h
              simp only [thenC]
              exact .fn (ih _ _ _ _ _ (by omega) (by assumption) (by assumption)) (ih _ _ _ _ _ (by omega) (by assumption) (by assumption))
            · simp only [Co.pr.sizeOf_spec] at h
              simp only [thenC]
              exact .pr (ih _ _ _ _ _ (by omega) (by assumption) (by assumption)) (ih _ _ _ _ _ (by omega) (by assumption) (by assumption))
  intro x y a b c h1 h2
  exact H _ _ _ _ _ _ (Nat.lt_succ_self _) h1 h2
/-! ### there and back -/
theorem back_any : ∀ (k : Kd) (l s l' s' : Int), thenC (toAny l s k) (anyTo l' s' k) = idC k
  | .any, l, s, l', s' => by simp [toAny, anyTo, thenC, idC]
  | .int, l, s, l', s' => by simp [toAny, anyTo, thenC, idC]
  | .bool, l, s, l', s' => by simp [toAny, anyTo, thenC, idC]
  | .fn a b, l, s, l', s' => by simp [toAny, anyTo, thenC, idC, back_any a, back_any b]
  | .pr a b, l, s, l', s' => by simp [toAny, anyTo, thenC, idC, back_any a, back_any b]
theorem back : ∀ (k less : Kd) (l s l' s' : Int), lesst less k = true → thenC (co l s k less) (co l' s' less k) = idC k := by
  intro k
  induction k with
  | any => intro less l s l' s' h; cases less <;> simp [lesst] at h; simp [anyTo, toAny, thenC, idC]
  | int => intro less l s l' s' h; cases less <;> simp [lesst] at h <;> simp [anyTo, toAny, thenC, idC]
  | bool => intro less l s l' s' h; cases less <;> simp [lesst] at h <;> simp [anyTo, toAny, thenC, idC]
  | fn x y ix iy =>
    intro less l s l' s' h
    cases less <;> simp [lesst] at h
    · simp only [co_anyL, co_anyR]; exact back_any _ _ _ _ _
    · simp [thenC, idC, ix _ l' (1 - s') l (1 - s) h.1, iy _ l s l' s' h.2]
  | pr x y ix iy =>
    intro less l s l' s' h
    cases less <;> simp [lesst] at h
    · simp only [co_anyL, co_anyR]; exact back_any _ _ _ _ _
    · simp [thenC, idC, ix _ l s l' s' h.1, iy _ l s l' s' h.2]
/-- the other way round it changes something, but from a kind to itself -/
theorem round : ∀ (k less : Kd) (l s l' s' : Int), lesst less k = true → (thenC (co l' s' less k) (co l s k less) = idC less ↔ k = less) := by
  intro k
  induction k with
  | any => intro less l s l' s' h; cases less <;> simp [lesst] at h; simp [anyTo, toAny, thenC, idC]
  | int => intro less l s l' s' h; cases less <;> simp [lesst] at h <;> simp [anyTo, toAny, thenC, idC, chk]
  | bool => intro less l s l' s' h; cases less <;> simp [lesst] at h <;> simp [anyTo, toAny, thenC, idC, chk]
  | fn x y ix iy =>
    intro less l s l' s' h
    cases less <;> simp [lesst] at h
    · simp only [co_anyL, co_anyR, anyTo, toAny, thenC, idC, chk]
      split <;> simp_all
    · simp [thenC, idC, ix _ l' (1 - s') l (1 - s) h.1, iy _ l s l' s' h.2]
  | pr x y ix iy =>
    intro less l s l' s' h
    cases less <;> simp [lesst] at h
    · simp only [co_anyL, co_anyR, anyTo, toAny, thenC, idC, chk]
      split <;> simp_all
    · simp [thenC, idC, ix _ l s l' s' h.1, iy _ l s l' s' h.2]
end P3
set_option Elab.async false
set_option linter.all false
set_option maxRecDepth 100000
set_option maxHeartbeats 0
/-! P8A: alike coercions, plainly -/
namespace P3
open PySem L2
def alk : Co → Co → Bool
  | .stay, .stay => true
  | .same, .same => true
  | .fail l s, .fail l' s' => decide (l = l') && decide (s = s')
  | .frm l s t c, .frm l' s' t' c' => decide (l = l') && decide (s = s') && decide (t = t') && alk c c'
  | .to t c, .to t' c' => decide (t = t') && alk c c'
  | .fn a b, .fn a' b' => alk a a' && (!a.pass || alk b b')
  | .pr a b, .pr a' b' => alk a a' && alk b b'
  | _, _ => false
theorem alk_self : ∀ c : Co, alk c c = true := by
  intro c
  induction c <;> simp_all [alk]
theorem alk_fail {x : Co} {l s : Int} (h : alk (.fail l s) x = true) : x = .fail l s := by
  cases x <;> simp [alk] at h
  rw [h.1, h.2]
theorem alk_failR {x : Co} {l s : Int} (h : alk x (.fail l s) = true) : x = .fail l s := by
  cases x <;> simp [alk] at h
  rw [h.1, h.2]
theorem alk_isFail {x y : Co} (h : alk x y = true) : x.isFail = y.isFail := by
  cases x <;> cases y <;> simp [alk] at h <;> rfl
theorem pass_frm (l s : Int) (t : Tg) (c : Co) : (Co.frm l s t c).pass = !c.isFail := by cases c <;> rfl
theorem alk_pass {x y : Co} (h : alk x y = true) : x.pass = y.pass := by
  cases x <;> cases y <;> simp [alk] at h <;> try rfl
  rw [pass_frm, pass_frm, alk_isFail h.2]
theorem alk_comm : ∀ x y : Co, alk x y = alk y x := by
  intro x
  induction x with
  | fn a b ia ib =>
    intro y
    cases y <;> try rfl
    rename_i c d
    simp only [alk, ia c, ib d]
    cases h : alk c a with
    | false => rfl
    | true => rw [alk_pass h]
  | frm l s t c ic =>
    intro y
    cases y <;> try rfl
    simp only [alk, ic]
    congr 1
    congr 1
    · congr 1 <;> exact decide_eq_decide.mpr eq_comm
    · exact decide_eq_decide.mpr eq_comm
  | fail l s =>
    intro y
    cases y <;> try rfl
    simp only [alk]
    congr 1 <;> exact decide_eq_decide.mpr eq_comm
  | to t c ic =>
    intro y
    cases y <;> try rfl
    simp only [alk, ic]
    congr 1
    exact decide_eq_decide.mpr eq_comm
  | pr a b ia ib =>
    intro y
    cases y <;> try rfl
    simp only [alk, ia, ib]
  | _ => intro y; cases y <;> rfl
theorem alk_trans : ∀ {x y z : Co}, alk x y = true → alk y z = true → alk x z = true := by
  intro x
  induction x with
  | fn a b ia ib =>
    intro y z h1 h2
    cases y <;> simp [alk] at h1
    cases z <;> simp [alk] at h2
    rename_i c d e f
    simp only [alk, Bool.and_eq_true, Bool.or_eq_true, Bool.not_eq_true']
    refine ⟨ia h1.1 h2.1, ?_⟩
    rcases h1.2 with h | h
    · exact .inl h
    · rcases h2.2 with g | g
      · exact .inl (by rw [alk_pass h1.1]; exact g)
      · exact .inr (ib h g)
  | pr a b ia ib =>
    intro y z h1 h2
    cases y <;> simp [alk] at h1
    cases z <;> simp [alk] at h2
    simp only [alk, Bool.and_eq_true]
    exact ⟨ia h1.1 h2.1, ib h1.2 h2.2⟩
  | frm l s t c ic =>
    intro y z h1 h2
    cases y <;> simp [alk] at h1
    cases z <;> simp [alk] at h2
    simp only [alk, Bool.and_eq_true, decide_eq_true_eq]
    obtain ⟨⟨⟨rfl, rfl⟩, rfl⟩, h1⟩ := h1
    obtain ⟨⟨⟨rfl, rfl⟩, rfl⟩, h2⟩ := h2
    exact ⟨⟨⟨rfl, rfl⟩, rfl⟩, ic h1 h2⟩
  | to t c ic =>
    intro y z h1 h2
    cases y <;> simp [alk] at h1
    cases z <;> simp [alk] at h2
    simp only [alk, Bool.and_eq_true, decide_eq_true_eq]
    obtain ⟨rfl, h1⟩ := h1
    obtain ⟨rfl, h2⟩ := h2
    exact ⟨rfl, ic h1 h2⟩
  | fail l s =>
    intro y z h1 h2
    cases alk_fail h1
    exact h2
  | _ =>
    intro y z h1 h2
    cases y <;> simp [alk] at h1
    exact h2
/-! ### what passes -/
theorem pass_of_M {x : Co} (h : x.isM = true) : x.pass = true := by cases x <;> simp_all [Co.isM, Co.pass]
theorem pass_fail (l s : Int) : (Co.fail l s).pass = false := rfl
theorem pass_to (t : Tg) (x : Co) : (Co.to t x).pass = true := rfl
theorem pass_chk (l s : Int) (t : Tg) (x : Co) (h : x.pass = false ∧ x.isFail = true) : (chk l s t x).pass = false := by
  unfold chk
  split
  · exact h.1
  · rw [pass_frm, h.2]; rfl
theorem isFail_pass {x : Co} (h : x.isFail = true) : x.pass = false := by cases x <;> simp_all [Co.isFail, Co.pass]
/-- behind a kind that is not any: what is refused is refused by the whole -/
theorem noPassR {x y : Co} {a b c : Kd} (h1 : Sh x a b) (h2 : Sh y b c) (ha : a.isAny = false) (hy : y.pass = false) : (thenC x y).isFail = true := by
  rcases sh_view h1 ha with ⟨l, s, rfl⟩ | ⟨x, rfl, rfl, hx, r⟩ | ⟨m1, hb⟩
  · rw [thenFailL]; rfl
  · rcases sh_viewA h2 with ⟨rfl, rfl⟩ | ⟨l, s, rfl⟩ | ⟨l, s, t, y, rfl, r2, hne⟩
    · cases hy
    · rw [to_fail]; rfl
    · rw [pass_frm] at hy
      have hf : y.isFail = true := by simpa using hy
      rw [to_frm]
      split
      · cases y <;> simp [Co.isFail] at hf
        rw [M_fail (sh_M r ha (gr_any a) hx)]; rfl
      · rfl
  · rcases sh_view h2 hb with ⟨l, s, rfl⟩ | ⟨y, rfl, rfl, hy', r⟩ | ⟨m2, hc⟩
    · rw [M_fail m1]; rfl
    · cases hy
    · rw [pass_of_M m2] at hy; cases hy
theorem pass_then {x y : Co} {a b c : Kd} (h1 : Sh x a b) (h2 : Sh y b c) (h : (thenC x y).pass = true) : x.pass = true ∧ y.pass = true := by
  by_cases ha : a.isAny = true
  · cases a <;> simp [Kd.isAny] at ha
    rcases sh_viewA h1 with ⟨rfl, rfl⟩ | ⟨l, s, rfl⟩ | ⟨l, s, t, x, rfl, r, hne⟩
    · simp only [thenC] at h; exact ⟨rfl, h⟩
    · rw [thenFailL] at h; cases h
    · simp only [thenC] at h
      refine ⟨?_, ?_⟩
      · rw [pass_frm]
        cases hf : x.isFail with
        | false => rfl
        | true =>
          cases x <;> simp [Co.isFail] at hf
          rw [thenFailL, pass_chk _ _ _ _ ⟨rfl, rfl⟩] at h
          cases h
      · cases hy : y.pass with
        | true => rfl
        | false =>
          have := noPassR r h2 (tk_any t) hy
          rw [pass_chk _ _ _ _ ⟨isFail_pass this, this⟩] at h
          cases h
  · have ha : a.isAny = false := by simpa using ha
    refine ⟨?_, ?_⟩
    · rcases sh_view h1 ha with ⟨l, s, rfl⟩ | ⟨x, rfl, rfl, hx, r⟩ | ⟨m1, hb⟩
      · rw [thenFailL] at h; cases h
      · rfl
      · exact pass_of_M m1
    · cases hy : y.pass with
      | true => rfl
      | false => rw [isFail_pass (noPassR h1 h2 ha hy)] at h; cases h
/-! ### put together -/
theorem alk_chk {l s : Int} {t : Tg} {x y : Co} (h : alk x y = true) : alk (chk l s t x) (chk l s t y) = true := by
  unfold chk
  by_cases e : x = .fail l s
  · subst e
    rw [alk_fail h, if_pos rfl]
    exact alk_self _
  · rw [if_neg e]
    have e2 : y ≠ .fail l s := fun z => by rw [z] at h; exact e (alk_failR h)
    rw [if_neg e2]
    simp [alk, h]
theorem alk_M {x y : Co} (h : alk x y = true) : x.isM = y.isM := by
  cases x <;> cases y <;> simp [alk] at h <;> rfl
theorem alk_then : ∀ {x x' z z' : Co} {a b c : Kd}, Sh x a b → Sh x' a b → Sh z b c → Sh z' b c → alk x x' = true → alk z z' = true → alk (thenC x z) (thenC x' z') = true := by
  have H : ∀ (n : Nat) (x x' z z' : Co) (a b c : Kd), sizeOf x + sizeOf z < n → Sh x a b → Sh x' a b → Sh z b c → Sh z' b c → alk x x' = true → alk z z' = true → alk (thenC x z) (thenC x' z') = true := by
    intro n
    induction n with
    | zero => intro x x' z z' a b c h; omega
    | succ n ih =>
      intro x x' z z' a b c h h1 h1' h2 h2' e1 e2
      by_cases ha : a.isAny = true
      · cases a <;> simp [Kd.isAny] at ha
        rcases sh_viewA h1 with ⟨rfl, rfl⟩ | ⟨l, s, rfl⟩ | ⟨l, s, t, x, rfl, r, hne⟩
        · cases x' <;> simp [alk] at e1
          simp only [thenC]; exact e2
        · cases alk_fail e1
          rw [thenFailL, thenFailL]; exact alk_self _
        · rcases sh_viewA h1' with ⟨rfl, rfl⟩ | ⟨l', s', rfl⟩ | ⟨l', s', t', x', rfl, r', hne'⟩
          · simp [alk] at e1
          · simp [alk] at e1
          · simp [alk] at e1
            obtain ⟨⟨⟨rfl, rfl⟩, rfl⟩, e1⟩ := e1
            simp only [Co.frm.sizeOf_spec] at h
            simp only [thenC]
            exact alk_chk (ih _ _ _ _ _ _ _ (by omega) r r' h2 h2' e1 e2)
      · have ha : a.isAny = false := by simpa using ha
        rcases sh_view h1 ha with ⟨l, s, rfl⟩ | ⟨x, rfl, rfl, hx, r⟩ | ⟨m1, hb⟩
        · cases alk_fail e1
          rw [thenFailL, thenFailL]; exact alk_self _
        · rcases sh_view h1' ha with ⟨l, s, rfl⟩ | ⟨x', rfl, _, hx', r'⟩ | ⟨m1', hb⟩
          · simp [alk] at e1
          · simp [alk] at e1
            simp only [Co.to.sizeOf_spec] at h
            rcases sh_viewA h2 with ⟨rfl, rfl⟩ | ⟨l, s, rfl⟩ | ⟨l, s, t, y, rfl, r2, hne⟩
            · cases z' <;> simp [alk] at e2
              rw [to_stay, to_stay]
              simp [alk, e1]
            · cases alk_fail e2
              rw [to_fail, to_fail]; exact alk_self _
            · rcases sh_viewA h2' with ⟨rfl, rfl⟩ | ⟨l', s', rfl⟩ | ⟨l', s', t', y', rfl, r2', hne'⟩
              · simp [alk] at e2
              · simp [alk] at e2
              · simp [alk] at e2
                obtain ⟨⟨⟨rfl, rfl⟩, rfl⟩, e2⟩ := e2
                simp only [Co.frm.sizeOf_spec] at h
                rw [to_frm, to_frm]
                by_cases e : t = a.tg
                · subst e
                  rw [if_pos rfl, if_pos rfl]
                  exact ih _ _ _ _ _ _ _ (by omega) r r' r2 r2' e1 e2
                · rw [if_neg e, if_neg e]; exact alk_self _
          · cases hb
        · have m1' : x'.isM = true := by rw [← alk_M e1]; exact m1
          rcases sh_view h2 hb with ⟨l, s, rfl⟩ | ⟨y, rfl, rfl, hy, r⟩ | ⟨m2, hc⟩
          · cases alk_fail e2
            rw [M_fail m1, M_fail m1']; exact alk_self _
          · rcases sh_view h2' hb with ⟨l, s, rfl⟩ | ⟨y', rfl, _, hy', r'⟩ | ⟨m2', hc⟩
            · simp [alk] at e2
            · simp [alk] at e2
              simp only [Co.to.sizeOf_spec] at h
              rw [M_to m1, M_to m1']
              simp only [alk, decide_true, Bool.true_and]
              exact ih _ _ _ _ _ _ _ (by omega) h1 h1' r r' e1 e2
            · cases hc
          · have m2' : z'.isM = true := by rw [← alk_M e2]; exact m2
            cases h1 <;> simp [Co.isM] at m1 <;> cases h2 <;> simp [Co.isM] at m2 <;> cases h1' <;> simp [Co.isM] at m1' <;> cases h2' <;> simp [Co.isM] at m2' <;> simp [alk] at e1 e2
            · simp [thenC, alk]
            · simp [thenC, alk]
            · simp only [Co.fn.sizeOf_spec] at h
              simp only [thenC, alk, Bool.and_eq_true, Bool.or_eq_true, Bool.not_eq_true']
              refine ⟨ih _ _ _ _ _ _ _ (by omega) (by assumption) (by assumption) (by assumption) (by assumption) e2.1 e1.1, ?_⟩
              refine Classical.or_iff_not_imp_left.mpr fun hp => ?_
              have hp := (Bool.not_eq_false _).mp hp
              have g := pass_then (by assumption) (by assumption) hp
              exact ih _ _ _ _ _ _ _ (by omega) (by assumption) (by assumption) (by assumption) (by assumption) (e1.2.resolve_left (by rw [g.2]; decide)) (e2.2.resolve_left (by rw [g.1]; decide))
            · simp only [Co.pr.sizeOf_spec] at h
              simp only [thenC, alk, Bool.and_eq_true]
              exact ⟨ih _ _ _ _ _ _ _ (by omega) (by assumption) (by assumption) (by assumption) (by assumption) e1.1 e2.1, ih _ _ _ _ _ _ _ (by omega) (by assumption) (by assumption) (by assumption) (by assumption) e1.2 e2.2⟩
  intro x x' z z' a b c h1 h2 h3 h4 h5 h6
  exact H _ _ _ _ _ _ _ _ (Nat.lt_succ_self _) h1 h2 h3 h4 h5 h6
end P3
set_option Elab.async false
set_option linter.all false
set_option maxRecDepth 100000
set_option maxHeartbeats 0
/-! P8B: rows of casts, coercions put together by the law -/
namespace P3
open PySem L2
structure Ca where
  l : Int
  s : Int
  a : Kd
  b : Kd
def Ca.d (c : Ca) : D := .tup [.int c.l, .int c.s, c.a.d, c.b.d]
def Ca.co (c : Ca) : Co := P3.co c.l c.s c.a c.b
def Ca.one (c : Ca) : Ca := { c with s := 1 }
/-- a row of casts from a kind to another one -/
inductive Pth : Kd → List Ca → Kd → Prop
  | nil (a : Kd) : Pth a [] a
  | cons {c : Ca} {cs : List Ca} {z : Kd} : agree c.a c.b = true → c.a.dep ≤ 2 → c.b.dep ≤ 2 → Pth c.b cs z → Pth c.a (c :: cs) z
theorem Pth.append {a b c : Kd} {xs ys : List Ca} (h : Pth a xs b) (h2 : Pth b ys c) : Pth a (xs ++ ys) c := by
  induction h with
  | nil a => exact h2
  | cons h1 h3 h4 _ ih => exact .cons h1 h3 h4 (ih h2)
theorem Pth.one {a b : Kd} {xs : List Ca} (h : Pth a xs b) : Pth a (xs.map Ca.one) b := by
  induction h with
  | nil a => exact .nil a
  | cons h1 h3 h4 _ ih => exact Pth.cons (c := Ca.one _) h1 h3 h4 ih
theorem Pth.dep {a b : Kd} {xs : List Ca} (h : Pth a xs b) (ha : a.dep ≤ 2) : b.dep ≤ 2 := by
  induction h with
  | nil a => exact ha
  | cons h1 h3 h4 _ ih => exact ih h4
theorem Pth.take {a b : Kd} {xs : List Ca} (h : Pth a xs b) : ∀ k : Nat, ∃ z, Pth a (xs.take k) z := by
  induction h with
  | nil a => intro k; exact ⟨a, by rw [List.take_nil]; exact .nil a⟩
  | @cons c cs z h1 h3 h4 _ ih =>
    intro k
    cases k with
    | zero => exact ⟨_, .nil _⟩
    | succ k => obtain ⟨z, hz⟩ := ih k; exact ⟨z, .cons h1 h3 h4 hz⟩
def allF (x : Co) (cs : List Ca) : Co := cs.foldl (fun x c => thenC x c.co) x
abbrev allC (k : Kd) (cs : List Ca) : Co := allF (idC k) cs
theorem allF_sh {k z : Kd} {cs : List Ca} (h : Pth k cs z) : ∀ {x : Co} {a : Kd}, Sh x a k → Sh (allF x cs) a z := by
  induction h with
  | nil a => intro x a hx; exact hx
  | cons h1 h3 h4 _ ih => intro x a hx; exact ih (then_sh hx (sh_co _ _ _ _ h1).1)
theorem allC_sh {k z : Kd} {cs : List Ca} (h : Pth k cs z) : Sh (allC k cs) k z := allF_sh h (sh_id k)
theorem allF_ht {k z : Kd} {cs : List Ca} (h : Pth k cs z) : ∀ {x : Co} {a : Kd}, Sh x a k → (allF x cs).ht ≤ x.ht + 5 * cs.length := by
  induction h with
  | nil a => intro x a hx; exact Nat.le_refl _
  | @cons c cs z h1 h3 h4 _ ih =>
    intro x a hx
    have i := ih (then_sh hx (sh_co _ _ c.l c.s h1).1)
    have j := then_ht hx (sh_co _ _ c.l c.s h1).1
    have k := (ht_co c.a c.b c.l c.s 2 h3 h4).1
    simp only [List.length_cons]
    show (allF (thenC x (P3.co c.l c.s c.a c.b)) cs).ht ≤ _
    omega
theorem allC_ht {k z : Kd} {cs : List Ca} (h : Pth k cs z) (hk : k.dep ≤ 2) : (allC k cs).ht ≤ 2 + 5 * cs.length := by
  have := allF_ht h (sh_id k)
  have := ht_id k
  show (allF (idC k) cs).ht ≤ _
  omega
/-! ### the law's functions -/
structure HasRow (G : GE) : Prop where
  still : G.fns.lookup "_law_still" = some F__law_still
  does : G.fns.lookup "_law_does" = some F__law_does
  joined : G.fns.lookup "_law_joined" = some F__law_joined
  all : G.fns.lookup "_law_all" = some F__law_all
  shut : G.fns.lookup "_law_shut" = some F__law_shut
  top : G.fns.lookup "_law_top" = some F__law_top
  leads : G.fns.lookup "_law_leads" = some F__law_leads
  oneof : G.fns.lookup "_law_one_of" = some F__law_one_of
  chain : G.fns.lookup "_law_chain" = some F__law_chain
  kind : G.fns.lookup "_law_kind" = some F__law_kind
  drift : G.fns.lookup "_law_drift" = some F__law_drift
section
variable {G : GE}
@[simp] theorem dk_len (k : Kd) : bfEv .len k.d = some (.val (.int (k.subs.length + 1 : Nat))) := by cases k <;> rfl
@[simp] theorem dc_same (c : Co) : eqD c.d (.tup [.str "same"]) = some (decide (c = .same)) := by
  unfold eqD
  rw [c.data]
  have h1 : (D.tup [.str "same"]).isData = true := rfl
  have h2 : (D.tup [.str "same"]).shal deepest = true := rfl
  rw [h1, h2, Bool.or_true]
  cases c <;> simp [Co.d, D.eqv, D.eqvs]
theorem still_at (hf : HasRow G) : ∀ (n : Nat) (k : Kd) (m : Mem), k.dep < n → callN G n "_law_still" [k.d] m = .ok (.val (idC k).d) m
  | 0, _, _, h => by omega
  | n + 1, k, m, h => by
    have ih := still_at hf n
    rw [callN_eq hf.still rfl]
    cases k <;> (try simp only [dep_fn, dep_pr] at h) <;>
      simp [F__law_still, startT, run_cons, List.replicate, lim_eq, idC, ih, h, Kd.isAny, Kd.subs, Kd.head] <;> rfl
theorem topR_at (hf : HasRow G) {n : Nat} (hn : 1 ≤ n) (k : Kd) (h : k.isAny = false) (m : Mem) : callN G n "_law_top" [k.d] m = .ok (.val k.gr.d) m := by
  obtain ⟨j, rfl⟩ : ∃ j, n = j + 1 := ⟨n - 1, by omega⟩
  rw [callN_eq hf.top rfl]
  cases k <;> simp [Kd.isAny] at h <;> simp [F__law_top, startT, run_cons, List.replicate, lim_eq, Kd.d, Kd.gr, Kd.tg, Tg.k, lc_cons]
abbrev ca (l s : Int) (a b : Kd) : D := .tup [.int l, .int s, a.d, b.d]
theorem does_base (hf : HasRow G) {n : Nat} (hn : 2 ≤ n) (l s : Int) (m : Mem) : callN G n "_law_does" [ca l s .int .int] m = .ok (.val Co.same.d) m ∧ callN G n "_law_does" [ca l s .bool .bool] m = .ok (.val Co.same.d) m ∧
    callN G n "_law_does" [ca l s .any .any] m = .ok (.val Co.stay.d) m := by
  obtain ⟨j, rfl⟩ : ∃ j, n = j + 1 := ⟨n - 1, by omega⟩
  have e1 : eqD Kd.int.d Kd.int.d = some true := eqD_kd .int .int (by simp [Kd.dep])
  have e2 : eqD Kd.bool.d Kd.bool.d = some true := eqD_kd .bool .bool (by simp [Kd.dep])
  have e3 : eqD Kd.any.d Kd.any.d = some true := eqD_kd .any .any (by simp [Kd.dep])
  have s1 : callN G j "_law_still" [Kd.int.d] m = .ok (.val Co.same.d) m := still_at hf j .int m (by simp only [Kd.dep]; omega)
  have s2 : callN G j "_law_still" [Kd.bool.d] m = .ok (.val Co.same.d) m := still_at hf j .bool m (by simp only [Kd.dep]; omega)
  have s3 : callN G j "_law_still" [Kd.any.d] m = .ok (.val Co.stay.d) m := still_at hf j .any m (by simp only [Kd.dep]; omega)
  refine ⟨?_, ?_, ?_⟩ <;> (rw [callN_eq hf.does rfl]; simp [F__law_does, startT, run_cons, List.replicate, lim_eq, e1, e2, e3, s1, s2, s3, Kd.subs])
theorem does_fn (hf : HasRow G) {n : Nat} {a b c d : Kd} {X Y : Co} {l s : Int} {m : Mem} (ha : (Kd.fn a b).dep < 200) (h1 : callN G n "_law_does" [ca l (1 - s) c a] m = .ok (.val X.d) m) (h2 : callN G n "_law_does" [ca l s b d] m = .ok (.val Y.d) m) :
    callN G (n + 1) "_law_does" [ca l s (.fn a b) (.fn c d)] m = .ok (.val (Co.fn X Y).d) m := by
  rw [callN_eq hf.does rfl]
  have e := eqD_kd (.fn a b) (.fn c d) ha
  cases q : (Kd.fn a b == Kd.fn c d) <;> rw [q] at e <;>
    simp [F__law_does, startT, run_cons, List.replicate, lim_eq, e, Kd.isAny, Kd.head, Kd.subs, h1, h2] <;> rfl
theorem does_pr (hf : HasRow G) {n : Nat} {a b c d : Kd} {X Y : Co} {l s : Int} {m : Mem} (ha : (Kd.pr a b).dep < 200) (h1 : callN G n "_law_does" [ca l s a c] m = .ok (.val X.d) m) (h2 : callN G n "_law_does" [ca l s b d] m = .ok (.val Y.d) m) :
    callN G (n + 1) "_law_does" [ca l s (.pr a b) (.pr c d)] m = .ok (.val (Co.pr X Y).d) m := by
  rw [callN_eq hf.does rfl]
  have e := eqD_kd (.pr a b) (.pr c d) ha
  cases q : (Kd.pr a b == Kd.pr c d) <;> rw [q] at e <;>
    simp [F__law_does, startT, run_cons, List.replicate, lim_eq, e, Kd.isAny, Kd.head, Kd.subs, h1, h2] <;> rfl
theorem does_from (hf : HasRow G) {n : Nat} {b : Kd} {X : Co} {l s : Int} {m : Mem} (hb : b.isAny = false) (hn : 1 ≤ n) (h1 : callN G n "_law_does" [ca l s b.gr b] m = .ok (.val X.d) m) :
    callN G (n + 1) "_law_does" [ca l s .any b] m = .ok (.val (Co.frm l s b.tg X).d) m := by
  have hg := topR_at hf hn b hb m
  have hh : b.head = b.tg.s := by cases b <;> first | rfl | cases hb
  have e := eqD_kd .any b (by simp [Kd.dep])
  have q : (Kd.any == b) = false := by cases b <;> first | rfl | cases hb
  rw [q] at e
  have ea : Kd.any.isAny = true := rfl
  rw [callN_eq hf.does rfl]
  simp [F__law_does, startT, run_cons, List.replicate, lim_eq, e, hb, hg, h1, hh, ea]
  rfl
theorem does_to (hf : HasRow G) {n : Nat} {b : Kd} {X : Co} {l s : Int} {m : Mem} (hb : b.isAny = false) (hd : b.dep < 200) (hn : 1 ≤ n) (h1 : callN G n "_law_does" [ca l s b b.gr] m = .ok (.val X.d) m) :
    callN G (n + 1) "_law_does" [ca l s b .any] m = .ok (.val (Co.to b.tg X).d) m := by
  have hg := topR_at hf hn b hb m
  have hh : b.head = b.tg.s := by cases b <;> first | rfl | cases hb
  have e := eqD_kd b .any hd
  have q : (b == Kd.any) = false := by cases b <;> first | rfl | cases hb
  rw [q] at e
  have ea : Kd.any.isAny = true := rfl
  rw [callN_eq hf.does rfl]
  simp [F__law_does, startT, run_cons, List.replicate, lim_eq, e, hb, hg, h1, hh, ea]
  rfl
theorem does_at (hf : HasRow G) : ∀ (d n : Nat) (a b : Kd) (l s : Int) (m : Mem), agree a b = true → a.dep ≤ d → b.dep ≤ d → d < 200 → 2 * d + 4 ≤ n → callN G n "_law_does" [ca l s a b] m = .ok (.val (co l s a b).d) m := by
  intro d
  induction d with
  | zero =>
    intro n a b l s m h h1 h2 hd hn
    obtain ⟨j, rfl⟩ : ∃ j, n = j + 1 := ⟨n - 1, by omega⟩
    have base := does_base hf (n := j) (by omega) l s m
    have base1 := does_base hf (n := j + 1) (by omega) l s m
    cases a <;> simp [Kd.dep] at h1 <;> cases b <;> simp [Kd.dep] at h2 <;> simp [agree] at h
    · simp only [co_anyL, anyTo]; exact base1.2.2
    · simp only [co_anyL, anyTo]; exact does_from hf (b := .int) rfl (by omega) base.1
    · simp only [co_anyL, anyTo]; exact does_from hf (b := .bool) rfl (by omega) base.2.1
    · simp only [co_anyR, toAny]; exact does_to hf (b := .int) rfl (by simp [Kd.dep]) (by omega) base.1
    · simp only [co_int]; exact base1.1
    · simp only [co_anyR, toAny]; exact does_to hf (b := .bool) rfl (by simp [Kd.dep]) (by omega) base.2.1
    · simp only [co_bool]; exact base1.2.1
  | succ d ih =>
    intro n a b l s m h h1 h2 hd hn
    obtain ⟨j, rfl⟩ : ∃ j, n = j + 1 + 1 := ⟨n - 2, by omega⟩
    have low : a.dep ≤ d → b.dep ≤ d → callN G (j + 1 + 1) "_law_does" [ca l s a b] m = .ok (.val (co l s a b).d) m := fun k1 k2 => ih _ a b l s m h k1 k2 (by omega) (by omega)
    have st := fun (x y : Kd) (s : Int) (hx : agree x y = true) (k1 : x.dep ≤ d) (k2 : y.dep ≤ d) => ih j x y l s m hx k1 k2 (by omega) (by omega)
    have st1 := fun (x y : Kd) (s : Int) (hx : agree x y = true) (k1 : x.dep ≤ d) (k2 : y.dep ≤ d) => ih (j + 1) x y l s m hx k1 k2 (by omega) (by omega)
    have z : Kd.any.dep ≤ d := Nat.zero_le _
    have aa : (Kd.fn .any .any).dep < 200 := by simp [Kd.dep]
    have ap : (Kd.pr .any .any).dep < 200 := by simp [Kd.dep]
    cases a with
    | any =>
      cases b with
      | fn x y =>
        simp only [Kd.dep] at h2
        simp only [co_anyL, anyTo]
        have e := does_fn hf aa (st x .any (1 - s) (by simp) (by omega) z) (st .any y s (by simp) z (by omega))
        simp only [co_anyL, co_anyR] at e
        exact does_from hf (b := .fn x y) rfl (by omega) e
      | pr x y =>
        simp only [Kd.dep] at h2
        simp only [co_anyL, anyTo]
        have e := does_pr hf ap (st .any x s (by simp) z (by omega)) (st .any y s (by simp) z (by omega))
        simp only [co_anyL, co_anyR] at e
        exact does_from hf (b := .pr x y) rfl (by omega) e
      | _ => exact low (Nat.zero_le _) (Nat.zero_le _)
    | int => cases b <;> first | exact low (Nat.zero_le _) (Nat.zero_le _) | (simp [agree] at h)
    | bool => cases b <;> first | exact low (Nat.zero_le _) (Nat.zero_le _) | (simp [agree] at h)
    | fn x y =>
      have hx : (Kd.fn x y).dep < 200 := by omega
      simp only [Kd.dep] at h1
      cases b <;> simp [agree] at h
      · simp only [co_anyR, toAny]
        have e := does_fn hf hx (st .any x (1 - s) (by simp) z (by omega)) (st y .any s (by simp) (by omega) z)
        simp only [co_anyL, co_anyR] at e
        exact does_to hf (b := .fn x y) rfl hx (by omega) e
      · rename_i u v
        simp only [Kd.dep] at h2
        rw [co_fn]
        exact does_fn hf hx (st1 u x (1 - s) (by rw [agree_comm]; exact h.1) (by omega) (by omega)) (st1 y v s h.2 (by omega) (by omega))
    | pr x y =>
      have hx : (Kd.pr x y).dep < 200 := by omega
      simp only [Kd.dep] at h1
      cases b <;> simp [agree] at h
      · simp only [co_anyR, toAny]
        have e := does_pr hf hx (st x .any s (by simp) (by omega) z) (st y .any s (by simp) (by omega) z)
        simp only [co_anyL, co_anyR] at e
        exact does_to hf (b := .pr x y) rfl hx (by omega) e
      · rename_i u v
        simp only [Kd.dep] at h2
        rw [co_pr]
        exact does_pr hf hx (st1 x u s h.1 (by omega) (by omega)) (st1 y v s h.2 (by omega) (by omega))
theorem joined_at (hf : HasRow G) : ∀ (n : Nat) (x y : Co) (a b c : Kd) (m : Mem), Sh x a b → Sh y b c → x.ht + y.ht + 1 ≤ n → callN G n "_law_joined" [x.d, y.d] m = .ok (.val (thenC x y).d) m := by
  intro n
  induction n using Nat.strongRecOn with
  | _ n ih =>
    intro x y a b c m h1 h2 hn
    obtain ⟨j, rfl⟩ : ∃ j, n = j + 1 := ⟨n - 1, by omega⟩
    rw [callN_eq hf.joined rfl]
    cases h1 with
    | stay => simp [F__law_joined, startT, run_cons, List.replicate, lim_eq, thenC, Co.isStay]
    | fail l s a b => simp [F__law_joined, startT, run_cons, List.replicate, lim_eq, thenFailL, Co.isStay]
    | frm l s t r hne =>
      rename_i x
      simp only [Co.ht] at hn
      have i1 := ih j (by omega) x y _ _ _ m r h2 (by omega)
      have e4 : slcEv (Co.frm l s t x).d none (some 4) = some (.val (.tup [.str "from", .int l, .int s, .str t.s])) := rfl
      simp only [thenC]
      unfold chk
      by_cases q : thenC x y = .fail l s
      · rw [if_pos q, q]
        rw [q] at i1
        simp [F__law_joined, startT, run_cons, List.replicate, lim_eq, Co.isStay, i1]
      · rw [if_neg q]
        simp [F__law_joined, startT, run_cons, List.replicate, lim_eq, Co.isStay, i1, q, e4]
        rfl
    | to hk hx r =>
      rename_i x
      simp only [Co.ht] at hn
      rcases sh_viewA h2 with ⟨rfl, rfl⟩ | ⟨l, s, rfl⟩ | ⟨l, s, t, y, rfl, r2, hne⟩
      · simp [F__law_joined, startT, run_cons, List.replicate, lim_eq, Co.isStay, to_stay]
      · simp [F__law_joined, startT, run_cons, List.replicate, lim_eq, Co.isStay, to_fail]
      · simp only [Co.ht] at hn
        rw [to_frm]
        by_cases e : t = a.tg
        · subst e
          have i1 := ih j (by omega) x y _ _ _ m r r2 (by omega)
          simp [F__law_joined, startT, run_cons, List.replicate, lim_eq, Co.isStay, i1]
        · have e' : ¬ a.tg = t := fun z => e z.symm
          rw [if_neg e]
          simp [F__law_joined, startT, run_cons, List.replicate, lim_eq, Co.isStay, e']
          rfl
    | int =>
      cases h2 with
      | int => simp [F__law_joined, startT, run_cons, List.replicate, lim_eq, thenC, Co.isStay]
      | fail l s a b => simp [F__law_joined, startT, run_cons, List.replicate, lim_eq, thenC, Co.isStay]
      | to h hx r =>
        rename_i y
        simp only [Co.ht] at hn
        have i1 := ih j (by omega) .same y _ _ _ m .int r (by simp only [Co.ht]; omega)
        simp [F__law_joined, startT, run_cons, List.replicate, lim_eq, thenC, Co.isStay, i1]
        rfl
    | bool =>
      cases h2 with
      | bool => simp [F__law_joined, startT, run_cons, List.replicate, lim_eq, thenC, Co.isStay]
      | fail l s a b => simp [F__law_joined, startT, run_cons, List.replicate, lim_eq, thenC, Co.isStay]
      | to h hx r =>
        rename_i y
        simp only [Co.ht] at hn
        have i1 := ih j (by omega) .same y _ _ _ m .bool r (by simp only [Co.ht]; omega)
        simp [F__law_joined, startT, run_cons, List.replicate, lim_eq, thenC, Co.isStay, i1]
        rfl
    | fn r1 r2 =>
      rename_i x1 x2 a1 b1 c1 d1
      simp only [Co.ht] at hn
      cases h2 with
      | fail l s a b => simp [F__law_joined, startT, run_cons, List.replicate, lim_eq, thenC, Co.isStay]
      | to h hx r =>
        rename_i y
        simp only [Co.ht] at hn
        have i1 := ih j (by omega) (.fn x1 x2) y _ _ _ m (.fn r1 r2) r (by simp only [Co.ht]; omega)
        simp [F__law_joined, startT, run_cons, List.replicate, lim_eq, thenC, Co.isStay, i1]
        rfl
      | fn r3 r4 =>
        rename_i y1 y2 c2 d2
        simp only [Co.ht] at hn
        have i1 := ih j (by omega) y1 x1 _ _ _ m r3 r1 (by omega)
        have i2 := ih j (by omega) x2 y2 _ _ _ m r2 r4 (by omega)
        simp [F__law_joined, startT, run_cons, List.replicate, lim_eq, thenC, Co.isStay, i1, i2]
        rfl
    | pr r1 r2 =>
      rename_i x1 x2 a1 b1 c1 d1
      simp only [Co.ht] at hn
      cases h2 with
      | fail l s a b => simp [F__law_joined, startT, run_cons, List.replicate, lim_eq, thenC, Co.isStay]
      | to h hx r =>
        rename_i y
        simp only [Co.ht] at hn
        have i1 := ih j (by omega) (.pr x1 x2) y _ _ _ m (.pr r1 r2) r (by simp only [Co.ht]; omega)
        simp [F__law_joined, startT, run_cons, List.replicate, lim_eq, thenC, Co.isStay, i1]
        rfl
      | pr r3 r4 =>
        rename_i y1 y2 c2 d2
        simp only [Co.ht] at hn
        have i1 := ih j (by omega) x1 y1 _ _ _ m r1 r3 (by omega)
        have i2 := ih j (by omega) x2 y2 _ _ _ m r2 r4 (by omega)
        simp [F__law_joined, startT, run_cons, List.replicate, lim_eq, thenC, Co.isStay, i1, i2]
        rfl
end
end P3
set_option Elab.async false
set_option linter.all false
set_option maxRecDepth 100000
set_option maxHeartbeats 0
/-! P8C: trials that part two coercions -/
namespace P3
open PySem L2
/-- a maker of trials -/
abbrev Trl (q : Int) : MO := .inst "Trials" [("label", .val (.int q))]
def nought : D := .tup [.str "number", .int 0]
def castD (q : Int) (a b : Kd) (x : D) : D := if a == b then x else .tup [.str "cast", .int q, a.d, b.d, x]
def someD (q : Int) : Kd → D
  | .any => castD q .int .any nought
  | .int => nought
  | .bool => .tup [.str "truth", .int 0]
  | .fn a b => .tup [.str "fn", .str "r", a.d, someD q b]
  | .pr a b => .tup [.str "pair", someD q a, someD q b]
structure HasTrials (G : GE) : Prop where
  any : HasAny G
  int : G.consts.lookup "INT" = some (.tup [.str "int"])
  name : G.consts.lookup "NAME" = some (.str "r")
  nought : G.consts.lookup "NOUGHT" = some nought
  heads : G.consts.lookup "HEADS" = some (.tup [Kd.int.d, Kd.bool.d, (Kd.fn .any .any).d, (Kd.pr .any .any).d])
  cast : G.fns.lookup "Trials.cast" = some F_Trials_cast
  some_ : G.fns.lookup "Trials.some" = some F_Trials_some
  under : G.fns.lookup "Trials.under" = some F_Trials_under
  some_under : G.fns.lookup "Trials.some_under" = some F_Trials_some_under
  head_of : G.fns.lookup "head_of" = some F_head_of
  ground : G.fns.lookup "ground" = some F_ground
structure HasMaker (G : GE) : Prop extends HasTrials G where
  other : G.fns.lookup "Trials.other" = some F_Trials_other
  passing : G.fns.lookup "Trials.passing" = some F_Trials_passing
  led : G.fns.lookup "Trials.led" = some F_Trials_led
  in_arg : G.fns.lookup "Trials.in_argument" = some F_Trials_in_argument
  in_res : G.fns.lookup "Trials.in_result" = some F_Trials_in_result
  in_part : G.fns.lookup "Trials.in_part" = some F_Trials_in_part
  behind : G.fns.lookup "Trials.behind_tag" = some F_Trials_behind_tag
section
variable {m : Mem} {l : Nat} {q : Int}
theorem inst_tr (h : m[l]? = some (Trl q)) (f : String) (hf : (f == "label") = false) : instOf m "Trials" f (.loc l) = some () := by
  simp [instOf, h, hf, List.lookup]
theorem fld_tr (h : m[l]? = some (Trl q)) : fldEv m "Trials" "label" (.loc l) = some (.int q) := by
  simp [fldEv, h]
@[simp] theorem nin_s1 (x a : String) : cmpEv .nin (.str x) (.tup [.str a]) = some (.bl (!(a == x))) := by
  rw [nin_tup]
  simp [D.isData, D.areData, sh_str, D.eqv]
@[simp] theorem nin_s2 (x a b : String) : cmpEv .nin (.str x) (.tup [.str a, .str b]) = some (.bl (!(a == x || b == x))) := by
  rw [nin_tup]
  simp [D.isData, D.areData, sh_str, D.eqv]
@[simp] theorem eqD_s2 (x y a b : String) : eqD (.tup [.str x, .str y]) (.tup [.str a, .str b]) = some (x == a && y == b) := by
  unfold eqD
  have h1 : (D.tup [.str x, .str y]).isData = true := rfl
  have h2 : (D.tup [.str a, .str b]).isData = true := rfl
  have h3 : (D.tup [.str a, .str b]).shal deepest = true := rfl
  rw [h1, h2, h3, Bool.or_true]
  simp [D.eqv, D.eqvs]
@[simp] theorem eqD_i2 (x y a b : Int) : eqD (.tup [.int x, .int y]) (.tup [.int a, .int b]) = some (x == a && y == b) := by
  unfold eqD
  have h1 : (D.tup [.int x, .int y]).isData = true := rfl
  have h2 : (D.tup [.int a, .int b]).isData = true := rfl
  have h3 : (D.tup [.int a, .int b]).shal deepest = true := rfl
  rw [h1, h2, h3, Bool.or_true]
  simp [D.eqv, D.eqvs]
@[simp] theorem tk_dep (t : Tg) : t.k.dep ≤ 1 := by cases t <;> simp [Tg.k, Kd.dep]
theorem any_d : Kd.any.d = .tup [.str "any"] := rfl
theorem int_d : Kd.int.d = .tup [.str "int"] := rfl
end
section
variable {G : GE} {m : Mem} {l : Nat} {q : Int}
theorem cast_at (hf : HasTrials G) (hm : m[l]? = some (Trl q)) {n : Nat} (hn : 1 ≤ n) (a b : Kd) (x : D) (ha : a.dep < 200) : callN G n "Trials.cast" [.loc l, a.d, b.d, x] m = .ok (.val (castD q a b x)) m := by
  obtain ⟨j, rfl⟩ : ∃ j, n = j + 1 := ⟨n - 1, by omega⟩
  rw [callN_eq hf.cast rfl]
  have e := eqD_kd a b ha
  have f := fld_tr hm
  unfold castD
  cases h : (a == b) <;> rw [h] at e <;> simp [F_Trials_cast, startT, run_cons, List.replicate, lim_eq, e, f]
theorem some_at (hf : HasTrials G) (hm : m[l]? = some (Trl q)) : ∀ (n : Nat) (k : Kd), k.dep + 1 < n → callN G n "Trials.some" [.loc l, k.d] m = .ok (.val (someD q k)) m
  | 0, _, h => by omega
  | n + 1, k, h => by
    have ih := some_at hf hm n
    have i1 := inst_tr hm "cast" (by decide)
    have i2 := inst_tr hm "some" (by decide)
    have c1 := cast_at hf hm (n := n) (by omega) .int .any nought (by simp [Kd.dep])
    rw [int_d, any_d] at c1
    have e0 : eqD Kd.int.d (.tup [.str "int"]) = some true := eqD_kd .int .int (by simp [Kd.dep])
    have e1 : eqD Kd.bool.d (.tup [.str "int"]) = some false := eqD_kd .bool .int (by simp [Kd.dep])
    rw [callN_eq hf.some_ rfl]
    cases k with
    | any => simp [F_Trials_some, startT, run_cons, List.replicate, lim_eq, hf.any.any, hf.int, hf.nought, i1, c1, Kd.isAny]; rfl
    | int => simp [F_Trials_some, startT, run_cons, List.replicate, lim_eq, hf.any.any, hf.int, hf.nought, Kd.isAny, Kd.head, e0]; rfl
    | bool => simp [F_Trials_some, startT, run_cons, List.replicate, lim_eq, hf.any.any, hf.int, hf.nought, Kd.isAny, Kd.head, e1]; rfl
    | fn a b =>
      simp only [Kd.dep] at h
      have c := ih b (by omega)
      simp [F_Trials_some, startT, run_cons, List.replicate, lim_eq, hf.any.any, hf.name, Kd.isAny, Kd.head, i2, c]; rfl
    | pr a b =>
      simp only [Kd.dep] at h
      have c := ih b (by omega)
      have c2 := ih a (by omega)
      simp [F_Trials_some, startT, run_cons, List.replicate, lim_eq, hf.any.any, hf.name, Kd.isAny, Kd.head, i2, c, c2]; rfl
theorem under_at (hf : HasTrials G) (hm : m[l]? = some (Trl q)) {n : Nat} (hn : 2 ≤ n) (k : Kd) (x : D) (hk : k.dep < 200) : callN G n "Trials.under" [.loc l, k.d, x] m = .ok (.val (castD q k .any x)) m := by
  obtain ⟨j, rfl⟩ : ∃ j, n = j + 1 := ⟨n - 1, by omega⟩
  have i1 := inst_tr hm "cast" (by decide)
  have c1 := cast_at hf hm (n := j) (by omega) k .any x hk
  rw [any_d] at c1
  rw [callN_eq hf.under rfl]
  simp [F_Trials_under, startT, run_cons, List.replicate, lim_eq, hf.any.any, i1, c1]
theorem some_under_at (hf : HasTrials G) (hm : m[l]? = some (Trl q)) {n : Nat} (k : Kd) (hn : k.dep + 4 ≤ n) (hk : k.dep < 200) : callN G n "Trials.some_under" [.loc l, k.d] m = .ok (.val (castD q k .any (someD q k))) m := by
  obtain ⟨j, rfl⟩ : ∃ j, n = j + 1 := ⟨n - 1, by omega⟩
  have i1 := inst_tr hm "under" (by decide)
  have i2 := inst_tr hm "some" (by decide)
  have c1 := some_at hf hm j k (by omega)
  have c2 := under_at hf hm (n := j) (by omega) k (someD q k) hk
  rw [callN_eq hf.some_under rfl]
  simp [F_Trials_some_under, startT, run_cons, List.replicate, lim_eq, i1, i2, c1, c2]
@[simp] theorem hd_int : Tg.int.s = "int" := rfl
theorem head_of_at (hf : HasTrials G) {n : Nat} (hn : 1 ≤ n) (t : Tg) : callN G n "head_of" [.str t.s] m = .ok (.val t.k.d) m := by
  obtain ⟨j, rfl⟩ : ∃ j, n = j + 1 := ⟨n - 1, by omega⟩
  rw [callN_eq hf.head_of rfl]
  cases t <;> simp [F_head_of, startT, run_cons, List.replicate, lim_eq, hf.heads, lc_cons, Kd.head, Tg.s, Tg.k]
end
section
variable {G : GE} {m : Mem} {l : Nat} {q : Int}
theorem other_at (hf : HasMaker G) (hm : m[l]? = some (Trl q)) {n : Nat} (hn : 6 ≤ n) (t t' : Tg) : (∃ v, callN G n "Trials.other" [.loc l, .tup [.str t.s]] m = .ok (.val v) m) ∧ (∃ v, callN G n "Trials.other" [.loc l, .tup [.str t.s, .str t'.s]] m = .ok (.val v) m) := by
  obtain ⟨j, rfl⟩ : ∃ j, n = j + 1 := ⟨n - 1, by omega⟩
  have i1 := inst_tr hm "some_under" (by decide)
  have c := fun (k : Kd) (h : k.dep ≤ 1) => some_under_at hf.toHasTrials hm (n := j) k (by omega) (by omega)
  have c1 := c .int (by simp [Kd.dep])
  have c2 := c .bool (by simp [Kd.dep])
  have c3 := c (.fn .any .any) (by simp [Kd.dep])
  have c4 := c (.pr .any .any) (by simp [Kd.dep])
  refine ⟨?_, ?_⟩ <;> rw [callN_eq hf.other rfl]
  · cases t <;> simp [F_Trials_other, startT, run_cons, List.replicate, lim_eq, hf.heads, lc_cons, Kd.head, Tg.s, i1, c1, c2, c3, c4]
  · cases t <;> cases t' <;> simp [F_Trials_other, startT, run_cons, List.replicate, lim_eq, hf.heads, lc_cons, Kd.head, Tg.s, i1, c1, c2, c3, c4]
theorem passing_at (hf : HasMaker G) (hm : m[l]? = some (Trl q)) {n : Nat} (c : Co) (k : Kd) (hk : k.dep + 6 ≤ n) (hn : 6 ≤ n) : ∃ v, callN G n "Trials.passing" [.loc l, c.d, k.d] m = .ok (.val v) m := by
  obtain ⟨j, rfl⟩ : ∃ j, n = j + 1 := ⟨n - 1, by omega⟩
  have i1 := inst_tr hm "some_under" (by decide)
  have i2 := inst_tr hm "some" (by decide)
  have c1 := some_at hf.toHasTrials hm j k (by omega)
  have c2 := fun t : Tg => head_of_at hf.toHasTrials (m := m) (n := j) (by omega) t
  have c3 := fun t : Tg => some_under_at hf.toHasTrials hm (n := j) t.k (by have := tk_dep t; omega) (by have := tk_dep t; omega)
  rw [callN_eq hf.passing rfl]
  cases c <;> simp [F_Trials_passing, startT, run_cons, List.replicate, lim_eq, i1, i2, c1, c2, c3]
theorem led_at (hf : HasMaker G) {n : Nat} (hn : 1 ≤ n) (k x y : D) : callN G n "Trials.led" [.loc l, k, x, y] m = .ok (.val (.tup [.str "let", .str "r", k, x, y])) m := by
  obtain ⟨j, rfl⟩ : ∃ j, n = j + 1 := ⟨n - 1, by omega⟩
  rw [callN_eq hf.led rfl]
  simp [F_Trials_led, startT, run_cons, List.replicate, lim_eq, hf.name]
theorem in_arg_at (hf : HasMaker G) (hm : m[l]? = some (Trl q)) {n : Nat} (a b c d : Kd) (hn : b.dep + 3 ≤ n) (g u : D) : ∃ g' u', callN G n "Trials.in_argument" [.loc l, (Kd.fn a b).d, (Kd.fn c d).d, .tup [g, u]] m = .ok (.val (.tup [g', u'])) m := by
  obtain ⟨j, rfl⟩ : ∃ j, n = j + 1 := ⟨n - 1, by omega⟩
  have i2 := inst_tr hm "some" (by decide)
  have c1 := some_at hf.toHasTrials hm j b (by omega)
  rw [callN_eq hf.in_arg rfl]
  simp [F_Trials_in_argument, startT, run_cons, List.replicate, lim_eq, i2, c1, hf.name, hf.int, hf.nought]
theorem in_res_at (hf : HasMaker G) (hm : m[l]? = some (Trl q)) {n : Nat} (x y : Co) (a b c d : Kd) (hn : c.dep + 8 ≤ n) (g u : D) : ∃ g' u', callN G n "Trials.in_result" [.loc l, (Co.fn x y).d, (Kd.fn a b).d, (Kd.fn c d).d, .tup [g, u]] m = .ok (.val (.tup [g', u'])) m := by
  obtain ⟨j, rfl⟩ : ∃ j, n = j + 1 := ⟨n - 1, by omega⟩
  have i1 := inst_tr hm "passing" (by decide)
  have i2 := inst_tr hm "led" (by decide)
  obtain ⟨v, c1⟩ := passing_at hf hm (n := j) x c (by omega) (by omega)
  have c2 := fun k x y => led_at hf (l := l) (m := m) (n := j) (by omega) k x y
  rw [callN_eq hf.in_res rfl]
  simp [F_Trials_in_result, startT, run_cons, List.replicate, lim_eq, i1, i2, c1, c2, hf.name]
theorem in_part1_at (hf : HasMaker G) (hm : m[l]? = some (Trl q)) {n : Nat} (a b c d : Kd) (hn : b.dep + 3 ≤ n) (g u : D) : ∃ g' u', callN G n "Trials.in_part" [.loc l, .int 1, (Kd.pr a b).d, (Kd.pr c d).d, .tup [g, u]] m = .ok (.val (.tup [g', u'])) m := by
  obtain ⟨j, rfl⟩ : ∃ j, n = j + 1 := ⟨n - 1, by omega⟩
  have i1 := inst_tr hm "some" (by decide)
  have i2 := inst_tr hm "led" (by decide)
  have c1 := some_at hf.toHasTrials hm j b (by omega)
  have c2 := fun k x y => led_at hf (l := l) (m := m) (n := j) (by omega) k x y
  rw [callN_eq hf.in_part rfl]
  simp [F_Trials_in_part, startT, run_cons, List.replicate, lim_eq, i1, i2, c1, c2, hf.name]
theorem in_part2_at (hf : HasMaker G) (hm : m[l]? = some (Trl q)) {n : Nat} (a b c d : Kd) (hn : a.dep + 3 ≤ n) (g u : D) : ∃ g' u', callN G n "Trials.in_part" [.loc l, .int 2, (Kd.pr a b).d, (Kd.pr c d).d, .tup [g, u]] m = .ok (.val (.tup [g', u'])) m := by
  obtain ⟨j, rfl⟩ : ∃ j, n = j + 1 := ⟨n - 1, by omega⟩
  have i1 := inst_tr hm "some" (by decide)
  have i2 := inst_tr hm "led" (by decide)
  have c1 := some_at hf.toHasTrials hm j a (by omega)
  have c2 := fun k x y => led_at hf (l := l) (m := m) (n := j) (by omega) k x y
  rw [callN_eq hf.in_part rfl]
  simp [F_Trials_in_part, startT, run_cons, List.replicate, lim_eq, i1, i2, c1, c2, hf.name]
theorem groundT_at (hf : HasTrials G) {n : Nat} (hn : 1 ≤ n) (k : Kd) (h : k.isAny = false) : callN G n "ground" [k.d] m = .ok (.val k.gr.d) m := by
  obtain ⟨j, rfl⟩ : ∃ j, n = j + 1 := ⟨n - 1, by omega⟩
  rw [callN_eq hf.ground rfl]
  cases k <;> simp [Kd.isAny] at h <;> simp [F_ground, startT, run_cons, List.replicate, lim_eq, hf.any.any, Kd.d, Kd.gr, Kd.tg, Tg.k]
theorem behind_at (hf : HasMaker G) (hm : m[l]? = some (Trl q)) {n : Nat} (k : Kd) (hk : k.isAny = false) (hn : 4 ≤ n) (g u : D) : ∃ g' u', callN G n "Trials.behind_tag" [.loc l, k.d, .tup [g, u]] m = .ok (.val (.tup [g', u'])) m := by
  obtain ⟨j, rfl⟩ : ∃ j, n = j + 1 := ⟨n - 1, by omega⟩
  have i1 := inst_tr hm "cast" (by decide)
  have i2 := inst_tr hm "led" (by decide)
  have c0 := groundT_at hf.toHasTrials (m := m) (n := j) (by omega) k hk
  have c1 := fun x => cast_at hf.toHasTrials hm (n := j) (by omega) .any k.gr x (by simp [Kd.dep])
  rw [any_d] at c1
  have c2 := fun k x y => led_at hf (l := l) (m := m) (n := j) (by omega) k x y
  rw [callN_eq hf.behind rfl]
  simp [F_Trials_behind_tag, startT, run_cons, List.replicate, lim_eq, i1, i2, c0, c1, c2, hf.name, hf.any.any]
end
end P3
set_option Elab.async false
set_option linter.all false
set_option maxRecDepth 100000
set_option maxHeartbeats 0
/-! P8D: parting, alike -/
namespace P3
open PySem L2
structure HasPart (G : GE) : Prop extends HasMaker G where
  passes : G.fns.lookup "passes" = some F_passes
  stay : G.consts.lookup "STAY" = some (.tup [.str "stay"])
  part : G.fns.lookup "parting" = some F_parting
  checks : G.fns.lookup "parting_checks" = some F_parting_checks
  heads_ : G.fns.lookup "parting_heads" = some F_parting_heads
/-- nothing where they are alike, a trial where not -/
def Res (b : Bool) (r : D) : Prop := (b = true → r = .non) ∧ (b = false → ∃ g u, r = .tup [g, u])
theorem Res.tt {r : D} (h : Res true r) : r = .non := h.1 rfl
theorem Res.ff {r : D} (h : Res false r) : ∃ g u, r = .tup [g, u] := h.2 rfl
theorem res_t : Res true .non := ⟨fun _ => rfl, fun h => by cases h⟩
theorem res_f (g u : D) : Res false (.tup [g, u]) := ⟨fun h => (by cases h), fun _ => ⟨g, u, rfl⟩⟩
theorem slc_fail (l s : Int) : slcEv (Co.fail l s).d (some 1) (some 3) = some (.val (.tup [.int l, .int s])) := rfl
theorem slc_frm (l s : Int) (t : Tg) (c : Co) : slcEv (Co.frm l s t c).d (some 1) (some 3) = some (.val (.tup [.int l, .int s])) := rfl
section
variable {G : GE} {m : Mem} {l : Nat} {q : Int}
theorem passP_at (hf : G.fns.lookup "passes" = some F_passes) {n : Nat} (hn : 1 ≤ n) (c : Co) (m : Mem) : callN G n "passes" [c.d] m = .ok (.val (.bl c.pass)) m := by
  obtain ⟨j, rfl⟩ : ∃ j, n = j + 1 := ⟨n - 1, by omega⟩
  rw [callN_eq hf rfl]
  cases c with
  | frm l s t c =>
    have : (c.w == "fail") = c.isFail := by cases c <;> rfl
    cases hc : c.isFail <;> rw [hc] at this <;> simp [F_passes, startT, run_cons, List.replicate, lim_eq, Co.pass, hc, this]
    all_goals (simp at this; simp [this])
  | _ => simp [F_passes, startT, run_cons, List.replicate, lim_eq, Co.pass]
theorem part_eq (hf : HasPart G) {n : Nat} (x : Co) (a b : Kd) (hx : x.ht < 200) : callN G (n + 1) "parting" [.loc l, x.d, x.d, a.d, b.d] m = .ok (.val .non) m := by
  rw [callN_eq hf.part rfl]
  have e := eqD_co x x hx
  simp [F_parting, startT, run_cons, List.replicate, e]
theorem part_words (hf : HasPart G) (hm : m[l]? = some (Trl q)) {n : Nat} (x y : Co) (a b : Kd) (hx : x.ht < 200) (hne : x ≠ y) (h1 : x.w ≠ "from") (h2 : y.w ≠ "from") (h3 : x.w = "fail" ∨ y.w = "fail" ∨ x.w = "stay" ∨ y.w = "stay") (hn : a.dep + 3 ≤ n) :
    callN G n "parting" [.loc l, x.d, y.d, a.d, b.d] m = .ok (.val (.tup [someD q a, nought])) m := by
  obtain ⟨j, rfl⟩ : ∃ j, n = j + 1 := ⟨n - 1, by omega⟩
  rw [callN_eq hf.part rfl]
  have e := eqD_co x y hx
  rw [decide_eq_false hne] at e
  have i1 := inst_tr hm "some" (by decide)
  have c1 := some_at hf.toHasTrials hm j a (by omega)
  cases x <;> simp at h1 <;> cases y <;> simp at h2 h3 <;> simp [F_parting, startT, run_cons, List.replicate, lim_eq, e, i1, c1, hf.nought]
theorem part_fromL (hf : HasPart G) (hm : m[l]? = some (Trl q)) {n : Nat} (l1 s1 : Int) (t : Tg) (c y : Co) (a b : Kd) (hx : c.ht + 1 < 200) (hy : y = .stay ∨ ∃ l s, y = .fail l s) (hn : 8 ≤ n) :
    ∃ g u, callN G n "parting" [.loc l, (Co.frm l1 s1 t c).d, y.d, a.d, b.d] m = .ok (.val (.tup [g, u])) m := by
  obtain ⟨j, rfl⟩ : ∃ j, n = j + 1 := ⟨n - 1, by omega⟩
  have i1 := inst_tr hm "other" (by decide)
  have i2 := inst_tr hm "some_under" (by decide)
  obtain ⟨⟨v, c1⟩, _⟩ := other_at hf.toHasMaker hm (n := j) (by omega) t t
  have c2 := head_of_at hf.toHasTrials (m := m) (n := j) (by omega) t
  have c3 := some_under_at hf.toHasTrials hm (n := j) t.k (by have := tk_dep t; omega) (by have := tk_dep t; omega)
  have hht : (Co.frm l1 s1 t c).ht < 200 := by simp only [Co.ht]; exact hx
  rcases hy with rfl | ⟨l2, s2, rfl⟩
  · have e := eqD_co (.frm l1 s1 t c) .stay hht
    rw [decide_eq_false (by simp)] at e
    rw [callN_eq hf.part rfl]
    simp [F_parting, startT, run_cons, List.replicate, lim_eq, e, i1, i2, c1, c2, c3, hf.nought, hf.stay, Co.isStay]
  · have e := eqD_co (.frm l1 s1 t c) (.fail l2 s2) hht
    rw [decide_eq_false (by simp)] at e
    rw [callN_eq hf.part rfl]
    cases hq : (l2 == l1 && s2 == s1) <;> simp [F_parting, startT, run_cons, List.replicate, lim_eq, e, i1, i2, c1, c2, c3, hf.nought, hf.stay, Co.isStay, slc_fail, slc_frm, -Bool.not_and, hq, -Bool.and_eq_true, -Bool.and_eq_false_imp]
theorem part_fromR (hf : HasPart G) (hm : m[l]? = some (Trl q)) {n : Nat} (l1 s1 : Int) (t : Tg) (c y : Co) (a b : Kd) (hy : y = .stay ∨ ∃ l s, y = .fail l s) (hn : 8 ≤ n) :
    ∃ g u, callN G n "parting" [.loc l, y.d, (Co.frm l1 s1 t c).d, a.d, b.d] m = .ok (.val (.tup [g, u])) m := by
  obtain ⟨j, rfl⟩ : ∃ j, n = j + 1 := ⟨n - 1, by omega⟩
  have i1 := inst_tr hm "other" (by decide)
  have i2 := inst_tr hm "some_under" (by decide)
  obtain ⟨⟨v, c1⟩, _⟩ := other_at hf.toHasMaker hm (n := j) (by omega) t t
  have c2 := head_of_at hf.toHasTrials (m := m) (n := j) (by omega) t
  have c3 := some_under_at hf.toHasTrials hm (n := j) t.k (by have := tk_dep t; omega) (by have := tk_dep t; omega)
  rcases hy with rfl | ⟨l2, s2, rfl⟩
  · have e' := eqD_co .stay (.frm l1 s1 t c) (by simp [Co.ht])
    rw [decide_eq_false (by simp)] at e'
    rw [callN_eq hf.part rfl]
    simp [F_parting, startT, run_cons, List.replicate, lim_eq, e', i1, i2, c1, c2, c3, hf.nought, hf.stay, Co.isStay]
  · have e' := eqD_co (.fail l2 s2) (.frm l1 s1 t c) (by simp [Co.ht])
    rw [decide_eq_false (by simp)] at e'
    rw [callN_eq hf.part rfl]
    cases hq : (l2 == l1 && s2 == s1) <;> simp [F_parting, startT, run_cons, List.replicate, lim_eq, e', i1, i2, c1, c2, c3, hf.nought, hf.stay, Co.isStay, slc_fail, slc_frm, -Bool.not_and, hq, -Bool.and_eq_true, -Bool.and_eq_false_imp]
theorem gr_dep (k : Kd) : k.gr.dep ≤ 1 := tk_dep _
theorem part_checks (hf : HasPart G) (hm : m[l]? = some (Trl q)) {n : Nat} (l1 s1 l2 s2 : Int) (t1 t2 : Tg) (x y : Co) (b : Kd) (hn : 8 ≤ n)
    (ih : t1 = t2 → ∃ r, callN G (n - 1) "parting" [.loc l, x.d, y.d, t1.k.d, b.d] m = .ok (.val r) m ∧ Res (alk x y) r) :
    ∃ r, callN G n "parting_checks" [.loc l, (Co.frm l1 s1 t1 x).d, (Co.frm l2 s2 t2 y).d, b.d] m = .ok (.val r) m ∧ Res (alk (.frm l1 s1 t1 x) (.frm l2 s2 t2 y)) r := by
  obtain ⟨j, rfl⟩ : ∃ j, n = j + 1 := ⟨n - 1, by omega⟩
  have i1 := inst_tr hm "other" (by decide)
  have i2 := inst_tr hm "some_under" (by decide)
  have i3 := inst_tr hm "under" (by decide)
  obtain ⟨_, ⟨v, c1⟩⟩ := other_at hf.toHasMaker hm (n := j) (by omega) t1 t2
  have c2 := head_of_at hf.toHasTrials (m := m) (n := j) (by omega) t1
  have c3 := some_under_at hf.toHasTrials hm (n := j) t1.k (by have := tk_dep t1; omega) (by have := tk_dep t1; omega)
  have c4 := fun x => under_at hf.toHasTrials hm (n := j) (by omega) t1.k x (by have := tk_dep t1; omega)
  rw [callN_eq hf.checks rfl]
  by_cases hl : (l1 == l2 && s1 == s2) = true
  · have hl' : l1 = l2 ∧ s1 = s2 := by simpa using hl
    obtain ⟨rfl, rfl⟩ := hl'
    by_cases ht : t1 = t2
    · subst ht
      obtain ⟨r, e, hr⟩ := ih rfl
      simp only [Nat.add_sub_cancel] at e
      have ha : alk (.frm l1 s1 t1 x) (.frm l1 s1 t1 y) = alk x y := by simp [alk]
      rw [ha]
      cases hb : alk x y with
      | true =>
        rw [hb] at hr
        rw [hr.tt] at e
        exact ⟨.non, by simp [F_parting_checks, startT, run_cons, List.replicate, lim_eq, slc_frm, c2, e], res_t⟩
      | false =>
        rw [hb] at hr
        obtain ⟨g, u, rfl⟩ := hr.ff
        exact ⟨_, by simp [F_parting_checks, startT, run_cons, List.replicate, lim_eq, slc_frm, c2, e, i3, c4]; first | rfl | exact ⟨rfl, rfl⟩, res_f _ _⟩
    · have ha : alk (.frm l1 s1 t1 x) (.frm l1 s1 t2 y) = false := by simp [alk, ht]
      rw [ha]
      exact ⟨_, by simp [F_parting_checks, startT, run_cons, List.replicate, lim_eq, slc_frm, ht, c2, c3, i2, hf.nought]; first | rfl | exact ⟨rfl, rfl⟩, res_f _ _⟩
  · have hl : (l1 == l2 && s1 == s2) = false := by simpa using hl
    have ha : alk (.frm l1 s1 t1 x) (.frm l2 s2 t2 y) = false := by
      simp only [alk]
      have : (decide (l1 = l2) && decide (s1 = s2)) = false := hl
      rw [this]; rfl
    rw [ha]
    exact ⟨_, by simp [F_parting_checks, startT, run_cons, List.replicate, lim_eq, slc_frm, hl, -Bool.not_and, i1, c1, hf.nought]; first | rfl | exact ⟨rfl, rfl⟩, res_f _ _⟩
theorem part_pr (hf : HasPart G) (hm : m[l]? = some (Trl q)) {n : Nat} (x1 x2 y1 y2 : Co) (a b c d : Kd) (hn : a.dep + 8 ≤ n ∧ b.dep + 8 ≤ n)
    (ih1 : ∃ r, callN G (n - 1) "parting" [.loc l, x1.d, y1.d, a.d, c.d] m = .ok (.val r) m ∧ Res (alk x1 y1) r)
    (ih2 : ∃ r, callN G (n - 1) "parting" [.loc l, x2.d, y2.d, b.d, d.d] m = .ok (.val r) m ∧ Res (alk x2 y2) r) :
    ∃ r, callN G n "parting_heads" [.loc l, (Co.pr x1 x2).d, (Co.pr y1 y2).d, (Kd.pr a b).d, (Kd.pr c d).d] m = .ok (.val r) m ∧ Res (alk (.pr x1 x2) (.pr y1 y2)) r := by
  obtain ⟨j, rfl⟩ : ∃ j, n = j + 1 := ⟨n - 1, by omega⟩
  have i1 := inst_tr hm "in_part" (by decide)
  obtain ⟨r1, e1, hr1⟩ := ih1
  obtain ⟨r2, e2, hr2⟩ := ih2
  simp only [Nat.add_sub_cancel] at e1 e2
  rw [callN_eq hf.heads_ rfl]
  cases hb : alk x1 y1 with
  | true =>
    rw [hb] at hr1
    rw [hr1.tt] at e1
    cases hb2 : alk x2 y2 with
    | true =>
      rw [hb2] at hr2
      rw [hr2.tt] at e2
      exact ⟨.non, by simp [F_parting_heads, startT, run_cons, List.replicate, lim_eq, for_cons, e1, e2], by simp [alk, hb, hb2]; exact res_t⟩
    | false =>
      rw [hb2] at hr2
      obtain ⟨g, u, rfl⟩ := hr2.ff
      obtain ⟨g', u', e3⟩ := in_part2_at hf.toHasMaker hm (n := j) a b c d (by omega) g u
      exact ⟨_, by simp [F_parting_heads, startT, run_cons, List.replicate, lim_eq, for_cons, e1, e2, i1, e3]; first | rfl | exact ⟨rfl, rfl⟩, by simp [alk, hb, hb2]; exact res_f _ _⟩
  | false =>
    rw [hb] at hr1
    obtain ⟨g, u, rfl⟩ := hr1.ff
    obtain ⟨g', u', e3⟩ := in_part1_at hf.toHasMaker hm (n := j) a b c d (by omega) g u
    exact ⟨_, by simp [F_parting_heads, startT, run_cons, List.replicate, lim_eq, for_cons, e1, i1, e3]; first | rfl | exact ⟨rfl, rfl⟩, by simp [alk, hb]; exact res_f _ _⟩
theorem part_fn (hf : HasPart G) (hm : m[l]? = some (Trl q)) {n : Nat} (x1 x2 y1 y2 : Co) (a b c d : Kd) (hn : b.dep + 10 ≤ n ∧ c.dep + 10 ≤ n)
    (ih1 : ∃ r, callN G (n - 1) "parting" [.loc l, x1.d, y1.d, c.d, a.d] m = .ok (.val r) m ∧ Res (alk x1 y1) r)
    (ih2 : ∃ r, callN G (n - 1) "parting" [.loc l, x2.d, y2.d, b.d, d.d] m = .ok (.val r) m ∧ Res (alk x2 y2) r) :
    ∃ r, callN G n "parting_heads" [.loc l, (Co.fn x1 x2).d, (Co.fn y1 y2).d, (Kd.fn a b).d, (Kd.fn c d).d] m = .ok (.val r) m ∧ Res (alk (.fn x1 x2) (.fn y1 y2)) r := by
  obtain ⟨j, rfl⟩ : ∃ j, n = j + 1 := ⟨n - 1, by omega⟩
  have i1 := inst_tr hm "in_argument" (by decide)
  have i2 := inst_tr hm "in_result" (by decide)
  have p1 := passP_at hf.passes (n := j) (by omega) x1 m
  obtain ⟨r1, e1, hr1⟩ := ih1
  obtain ⟨r2, e2, hr2⟩ := ih2
  simp only [Nat.add_sub_cancel] at e1 e2
  rw [callN_eq hf.heads_ rfl]
  cases hb : alk x1 y1 with
  | true =>
    rw [hb] at hr1
    rw [hr1.tt] at e1
    cases hp : x1.pass with
    | false =>
      rw [hp] at p1
      exact ⟨.non, by simp [F_parting_heads, startT, run_cons, List.replicate, lim_eq, e1, p1], by simp [alk, hb, hp]; exact res_t⟩
    | true =>
      rw [hp] at p1
      cases hb2 : alk x2 y2 with
      | true =>
        rw [hb2] at hr2
        rw [hr2.tt] at e2
        exact ⟨.non, by simp [F_parting_heads, startT, run_cons, List.replicate, lim_eq, e1, e2, p1], by simp [alk, hb, hb2]; exact res_t⟩
      | false =>
        rw [hb2] at hr2
        obtain ⟨g, u, rfl⟩ := hr2.ff
        obtain ⟨g', u', e3⟩ := in_res_at hf.toHasMaker hm (n := j) x1 x2 a b c d (by omega) g u
        exact ⟨_, by simp [F_parting_heads, startT, run_cons, List.replicate, lim_eq, e1, e2, i2, e3, p1]; first | rfl | exact ⟨rfl, rfl⟩, by simp [alk, hb, hb2, hp]; exact res_f _ _⟩
  | false =>
    rw [hb] at hr1
    obtain ⟨g, u, rfl⟩ := hr1.ff
    obtain ⟨g', u', e3⟩ := in_arg_at hf.toHasMaker hm (n := j) a b c d (by omega) g u
    exact ⟨_, by simp [F_parting_heads, startT, run_cons, List.replicate, lim_eq, e1, i1, e3]; first | rfl | exact ⟨rfl, rfl⟩, by simp [alk, hb]; exact res_f _ _⟩
end
end P3
set_option Elab.async false
set_option linter.all false
set_option maxRecDepth 100000
set_option maxHeartbeats 0
/-! P8E: parting, are_alike -/
namespace P3
open PySem L2
structure HasAlike (G : GE) : Prop extends HasPart G where
  paper : G.fns.lookup "alike_paper" = some F_alike_paper
  alike : G.fns.lookup "are_alike" = some F_are_alike
  mk1 : G.fns.lookup "Trials" = none
  mk2 : G.makes.lookup "Trials" = some "Trials.__init__"
  init : G.fns.lookup "Trials.__init__" = some F_Trials___init__
section
variable {G : GE} {m : Mem} {l : Nat} {q : Int}
theorem parting_at (hf : HasPart G) (hm : m[l]? = some (Trl q)) (K : Nat) (hK : 1 ≤ K) (hK2 : K < 200) : ∀ (n : Nat) (x y : Co) (a b : Kd), Sh x a b → Sh y a b → a.dep ≤ K → b.dep ≤ K → x.ht < 199 → 2 * x.ht + K + 14 ≤ n →
    ∃ r, callN G n "parting" [.loc l, x.d, y.d, a.d, b.d] m = .ok (.val r) m ∧ Res (alk x y) r := by
  intro n
  induction n using Nat.strongRecOn with
  | _ n ih =>
    intro x y a b h1 h2 ha hb hx hn
    by_cases hxy : x = y
    · subst hxy
      obtain ⟨j, rfl⟩ : ∃ j, n = j + 1 := ⟨n - 1, by omega⟩
      rw [alk_self]
      exact ⟨_, part_eq hf x a b (by omega), res_t⟩
    have words : ∀ (y : Co), x ≠ y → alk x y = false → x.w ≠ "from" → y.w ≠ "from" → (x.w = "fail" ∨ y.w = "fail" ∨ x.w = "stay" ∨ y.w = "stay") → ∃ r, callN G n "parting" [.loc l, x.d, y.d, a.d, b.d] m = .ok (.val r) m ∧ Res (alk x y) r := by
      intro y hne hal w1 w2 w3
      rw [hal]
      exact ⟨_, part_words hf hm x y a b (by omega) hne w1 w2 w3 (by omega), res_f _ _⟩
    obtain ⟨j, rfl⟩ : ∃ j, n = j + 1 := ⟨n - 1, by omega⟩
    have e := eqD_co x y (by omega)
    rw [decide_eq_false hxy] at e
    by_cases hA : a.isAny = true
    · cases a <;> simp [Kd.isAny] at hA
      rcases sh_viewA h1 with ⟨rfl, hb0⟩ | ⟨l1, s1, rfl⟩ | ⟨l1, s1, t1, x, rfl, r1, hne1⟩
      · rcases sh_viewA h2 with ⟨rfl, _⟩ | ⟨l2, s2, rfl⟩ | ⟨l2, s2, t2, y, rfl, r2, hne2⟩
        · exact absurd rfl hxy
        · exact words _ (by simp) rfl (by simp) (by simp) (by simp)
        · obtain ⟨g, u, e1⟩ := part_fromR hf hm (n := j + 1) l2 s2 t2 y .stay .any b (.inl rfl) (by omega)
          exact ⟨_, e1, res_f _ _⟩
      · rcases sh_viewA h2 with ⟨rfl, _⟩ | ⟨l2, s2, rfl⟩ | ⟨l2, s2, t2, y, rfl, r2, hne2⟩
        · exact words _ (by simp) rfl (by simp) (by simp) (by simp)
        · refine words _ hxy ?_ (by simp) (by simp) (by simp)
          cases hz : alk (.fail l1 s1) (.fail l2 s2) with
          | false => rfl
          | true => exact absurd (alk_fail hz).symm hxy
        · obtain ⟨g, u, e1⟩ := part_fromR hf hm (n := j + 1) l2 s2 t2 y (.fail l1 s1) .any b (.inr ⟨_, _, rfl⟩) (by omega)
          exact ⟨_, e1, res_f _ _⟩
      · simp only [Co.ht] at hx hn
        rcases sh_viewA h2 with ⟨rfl, _⟩ | ⟨l2, s2, rfl⟩ | ⟨l2, s2, t2, y, rfl, r2, hne2⟩
        · obtain ⟨g, u, e1⟩ := part_fromL hf hm (n := j + 1) l1 s1 t1 x .stay .any b (by omega) (.inl rfl) (by omega)
          exact ⟨_, e1, res_f _ _⟩
        · obtain ⟨g, u, e1⟩ := part_fromL hf hm (n := j + 1) l1 s1 t1 x (.fail l2 s2) .any b (by omega) (.inr ⟨_, _, rfl⟩) (by omega)
          exact ⟨_, e1, res_f _ _⟩
        · obtain ⟨r, e1, hr⟩ := part_checks hf hm (n := j) l1 s1 l2 s2 t1 t2 x y b (by omega) (fun ht => by
            subst ht
            have := tk_dep t1
            exact ih (j - 1) (by omega) x y t1.k b r1 r2 (by omega) hb (by omega) (by omega))
          refine ⟨r, ?_, hr⟩
          rw [callN_eq hf.part rfl]
          simp [F_parting, startT, run_cons, List.replicate, lim_eq, e, e1]
    · have hA : a.isAny = false := by simpa using hA
      rcases sh_view h1 hA with ⟨l1, s1, rfl⟩ | ⟨x, rfl, rfl, hx0, r1⟩ | ⟨m1, hb1⟩
      · rcases sh_view h2 hA with ⟨l2, s2, rfl⟩ | ⟨y, rfl, _, hy0, r2⟩ | ⟨m2, hb2⟩
        · refine words _ hxy ?_ (by simp) (by simp) (by simp)
          cases hz : alk (.fail l1 s1) (.fail l2 s2) with
          | false => rfl
          | true => exact absurd (alk_fail hz).symm hxy
        · exact words _ (by simp) rfl (by simp) (by simp) (by simp)
        · refine words _ hxy ?_ (by simp) ?_ (by simp)
          · cases y <;> simp [Co.isM] at m2 <;> rfl
          · cases y <;> simp [Co.isM] at m2 <;> simp
      · rcases sh_view h2 hA with ⟨l2, s2, rfl⟩ | ⟨y, rfl, _, hy0, r2⟩ | ⟨m2, hb2⟩
        · exact words _ (by simp) rfl (by simp) (by simp) (by simp)
        · simp only [Co.ht] at hx hn
          obtain ⟨r, e1, hr⟩ := ih j (by omega) x y a a.gr r1 r2 ha (Nat.le_trans (gr_dep a) hK) (by omega) (by omega)
          have c0 := groundT_at hf.toHasTrials (m := m) (n := j) (by omega) a hA
          have i1 := inst_tr hm "behind_tag" (by decide)
          have hal : alk (.to a.tg x) (.to a.tg y) = alk x y := by simp [alk]
          rw [hal]
          rw [callN_eq hf.part rfl]
          cases hq : alk x y with
          | true =>
            rw [hq] at hr
            rw [hr.tt] at e1
            exact ⟨.non, by simp [F_parting, startT, run_cons, List.replicate, lim_eq, e, c0, e1], res_t⟩
          | false =>
            rw [hq] at hr
            obtain ⟨g, u, rfl⟩ := hr.ff
            obtain ⟨g', u', e2⟩ := behind_at hf.toHasMaker hm (n := j) a hA (by omega) g u
            exact ⟨_, by simp [F_parting, startT, run_cons, List.replicate, lim_eq, e, c0, e1, i1, e2]; first | rfl | exact ⟨rfl, rfl⟩, res_f _ _⟩
        · cases hb2
      · rcases sh_view h2 hA with ⟨l2, s2, rfl⟩ | ⟨y, rfl, hb2, hy0, r2⟩ | ⟨m2, hb2⟩
        · refine words _ hxy ?_ ?_ (by simp) (by simp)
          · cases x <;> simp [Co.isM] at m1 <;> rfl
          · cases x <;> simp [Co.isM] at m1 <;> simp
        · rw [hb2] at hb1; cases hb1
        · cases h1 with
          | int => cases h2 <;> simp [Co.isM] at m2; exact absurd rfl hxy
          | bool => cases h2 <;> simp [Co.isM] at m2; exact absurd rfl hxy
          | fn p1 p2 =>
            cases h2 with
            | fn q1 q2 =>
              simp only [Co.ht] at hx hn
              simp only [Kd.dep] at ha hb
              obtain ⟨r, e1, hr⟩ := part_fn hf hm (n := j) _ _ _ _ _ _ _ _ (by omega) (ih (j - 1) (by omega) _ _ _ _ p1 q1 (by omega) (by omega) (by omega) (by omega)) (ih (j - 1) (by omega) _ _ _ _ p2 q2 (by omega) (by omega) (by omega) (by omega))
              refine ⟨r, ?_, hr⟩
              rw [callN_eq hf.part rfl]
              simp [F_parting, startT, run_cons, List.replicate, lim_eq, e, e1]
            | _ => simp [Co.isM] at m2
          | pr p1 p2 =>
            cases h2 with
            | pr q1 q2 =>
              simp only [Co.ht] at hx hn
              simp only [Kd.dep] at ha hb
              obtain ⟨r, e1, hr⟩ := part_pr hf hm (n := j) _ _ _ _ _ _ _ _ (by omega) (ih (j - 1) (by omega) _ _ _ _ p1 q1 (by omega) (by omega) (by omega) (by omega)) (ih (j - 1) (by omega) _ _ _ _ p2 q2 (by omega) (by omega) (by omega) (by omega))
              refine ⟨r, ?_, hr⟩
              rw [callN_eq hf.part rfl]
              simp [F_parting, startT, run_cons, List.replicate, lim_eq, e, e1]
            | _ => simp [Co.isM] at m2
          | _ => simp [Co.isM] at m1
theorem mkTr_at (hf : HasAlike G) {n : Nat} (hn : 2 ≤ n) (q : Int) (m : Mem) : callN G n "Trials" [.int q] m = .ok (.val (.loc m.length)) (m ++ [Trl q]) := by
  obtain ⟨j, rfl⟩ : ∃ j, n = j + 1 + 1 := ⟨n - 2, by omega⟩
  rw [callN_make hf.mk1 hf.mk2, callN_eq hf.init rfl]
  have e : fldPut (m ++ [.inst "Trials" []]) "Trials" "label" (.val (.int q)) (.loc m.length) = some (m ++ [Trl q]) := by
    simp [fldPut, setF]
  simp [F_Trials___init__, startT, run_cons, e]
theorem alike_at (hf : HasAlike G) (K : Nat) (hK : 1 ≤ K) (hK2 : K < 200) {n : Nat} {x y : Co} {a b : Kd} (h1 : Sh x a b) (h2 : Sh y a b) (ha : a.dep ≤ K) (hb : b.dep ≤ K) (hx : x.ht < 199) (hn : 2 * x.ht + K + 16 ≤ n) (m : Mem) :
    callN G n "are_alike" [x.d, y.d, a.d, b.d] m = .ok (.val (.bl (alk x y))) (m ++ [Trl 0]) := by
  obtain ⟨j, rfl⟩ : ∃ j, n = j + 1 + 1 := ⟨n - 2, by omega⟩
  have c1 := mkTr_at hf (n := j) (by omega) 0 m
  obtain ⟨r, e, hr⟩ := parting_at hf.toHasPart (m := m ++ [Trl 0]) (l := m.length) (q := 0) (by simp) K hK hK2 j x y a b h1 h2 ha hb hx (by omega)
  cases hq : alk x y with
  | true =>
    rw [hq] at hr
    rw [hr.tt] at e
    have p : callN G (j + 1) "alike_paper" [x.d, y.d, a.d, b.d] m = .ok (.val (.tup [.str "alike"])) (m ++ [Trl 0]) := by
      rw [callN_eq hf.paper rfl]
      simp [F_alike_paper, startT, run_cons, List.replicate, lim_eq, c1, e]
    rw [callN_eq hf.alike rfl]
    simp [F_are_alike, startT, run_cons, List.replicate, lim_eq, p]
  | false =>
    rw [hq] at hr
    obtain ⟨g, u, rfl⟩ := hr.ff
    have p : callN G (j + 1) "alike_paper" [x.d, y.d, a.d, b.d] m = .ok (.val (.tup [.str "parts", g, u])) (m ++ [Trl 0]) := by
      rw [callN_eq hf.paper rfl]
      simp [F_alike_paper, startT, run_cons, List.replicate, lim_eq, c1, e]
    rw [callN_eq hf.alike rfl]
    simp [F_are_alike, startT, run_cons, List.replicate, lim_eq, p]
end
end P3
set_option Elab.async false
set_option linter.all false
set_option maxRecDepth 100000
set_option maxHeartbeats 0
/-! P8G: rows of casts drawn, put together, looked at -/
namespace P3
open PySem L2
def cds (cs : List Ca) : List D := cs.map Ca.d
theorem Ca.d_eq (c : Ca) : c.d = .tup [.int c.l, .int c.s, c.a.d, c.b.d] := rfl
theorem pth_cons {a z : Kd} {l : List Ca} (h : Pth a l z) : ∀ {c : Ca} {cs : List Ca}, l = c :: cs → c.a = a ∧ agree c.a c.b = true ∧ c.a.dep ≤ 2 ∧ c.b.dep ≤ 2 ∧ Pth c.b cs z := by
  cases h with
  | nil a => intro c cs e; cases e
  | cons h1 h3 h4 hp => intro c cs e; cases e; exact ⟨rfl, h1, h3, h4, hp⟩
theorem pth_nil {a z : Kd} {l : List Ca} (h : Pth a l z) : l = [] → a = z := by
  cases h with
  | nil a => intro _; rfl
  | cons h1 h3 h4 hp => intro e; cases e
section
variable {GC : Cons} {C : Call} {τ : Tau} {m : Mem}
/-- [f(x) for x in xs]: the memory may grow -/
theorem lc_grow {asg : D → Tau → Option Tau} {elt : Tau → Mem → Out D} {τ : Tau} (f : D → D) : ∀ (xs acc : List D) (m : Mem), (∀ x ∈ xs, ∀ m, ∃ τ' e, asg x τ = some τ' ∧ elt τ' m = .ok (f x) (m ++ e)) → acc.length + xs.length ≤ lim →
    ∃ e, lcEv asg (fun _ m => .ok true m) elt xs τ m acc = .ok (acc ++ xs.map f) (m ++ e)
  | [], acc, m, _, _ => ⟨[], by simp⟩
  | x :: xs, acc, m, h, hl => by
    obtain ⟨τ', e1, h1, h2⟩ := h x List.mem_cons_self m
    simp only [List.length_cons] at hl
    obtain ⟨e2, h3⟩ := lc_grow f xs (acc ++ [f x]) (m ++ e1) (fun y hy => h y (List.mem_cons_of_mem _ hy)) (by simp only [List.length_append, List.length_cons, List.length_nil]; omega)
    refine ⟨e1 ++ e2, ?_⟩
    rw [lc_cons, h1]
    simp only [bind_ok, if_true, h2]
    rw [if_pos (by omega), h3]
    simp
theorem ev_lcGrow {E : ME} {tg : Tgt} {it : MI} {own : List (String × Nat)} {m0 : Mem} (f : D → D) (xs : List D) (hi : evalI GC C it τ m0 = .ok xs m) (ho : (own.map (·.2)).all (noOwn τ) = true) (hl : xs.length ≤ lim)
    (h : ∀ x ∈ xs, ∀ m, ∃ τ' r e, tgEv tg x (wipeT τ (own.map (·.2))) = some τ' ∧ evalE GC C E τ' m = .ok r (m ++ e) ∧ r.toD = f x) :
    ∃ e, evalE GC C (.lc E tg it .nil own) τ m0 = .ok (.own (.lst (xs.map f))) (m ++ e) := by
  obtain ⟨e, he⟩ := lc_grow (asg := tgEv tg) (elt := fun τ m => noexc (toV (evalE GC C E τ m))) (τ := wipeT τ (own.map (·.2))) f xs [] m (fun x hx m => by
    obtain ⟨τ', r, e, h1, h2, h3⟩ := h x hx m
    refine ⟨τ', e, h1, ?_⟩
    simp only [h2]
    show Out.ok r.toD _ = _
    rw [h3]) (by simpa using hl)
  refine ⟨e, ?_⟩
  rw [ev_lc, hi, bind_ok, if_pos ho]
  show (lcEv (tgEv tg) (fun _ m => .ok true m) _ xs _ m []).bind _ = _
  rw [he]
  simp
theorem ev_lcMap {E : ME} {tg : Tgt} {it : MI} {own : List (String × Nat)} {m0 : Mem} (f : D → D) (xs : List D) (hi : evalI GC C it τ m0 = .ok xs m) (ho : (own.map (·.2)).all (noOwn τ) = true) (hl : xs.length ≤ lim)
    (h : ∀ x ∈ xs, ∃ τ', tgEv tg x (wipeT τ (own.map (·.2))) = some τ' ∧ evalE GC C E τ' m = .ok (.val (f x)) m) : evalE GC C (.lc E tg it .nil own) τ m0 = .ok (.own (.lst (xs.map f))) m := by
  have key := lcEv_pure (asg := tgEv tg) (cond := fun τ m => noexc (evalT GC C .nil τ m)) (elt := fun τ m => noexc (toV (evalE GC C E τ m))) (τ := wipeT τ (own.map (·.2))) (m := m) (fun _ => true) f xs [] (fun x hx => by
    obtain ⟨τ', h1, h2⟩ := h x hx
    exact ⟨τ', h1, rfl, fun _ => by simp only [h2]; rfl⟩) (by simpa using hl)
  rw [List.filter_eq_self.mpr (fun _ _ => rfl), List.nil_append] at key
  rw [ev_lc, hi, bind_ok, if_pos ho, key]
  rfl
theorem ev_lcNone {E cn : ME} {tg : Tgt} {it : MI} {own : List (String × Nat)} {m0 : Mem} (xs : List D) (hi : evalI GC C it τ m0 = .ok xs m) (ho : (own.map (·.2)).all (noOwn τ) = true) (hl : xs.length ≤ lim)
    (h : ∀ x ∈ xs, ∃ τ', tgEv tg x (wipeT τ (own.map (·.2))) = some τ' ∧ evalE GC C cn τ' m = .ok (.val (.bl false)) m) : evalE GC C (.lc E tg it (.cons cn .nil) own) τ m0 = .ok (.own (.lst [])) m := by
  have key := lcEv_pure (asg := tgEv tg) (cond := fun τ m => noexc (evalT GC C (.cons cn .nil) τ m)) (elt := fun τ m => noexc (toV (evalE GC C E τ m))) (τ := wipeT τ (own.map (·.2))) (m := m) (fun _ => false) id xs [] (fun x hx => by
    obtain ⟨τ', h1, h2⟩ := h x hx
    exact ⟨τ', h1, by simp only [evt_cons, h2]; rfl, fun z => by cases z⟩) (by simpa using hl)
  rw [List.filter_eq_nil_iff.mpr (fun _ _ => by decide), List.map_nil, List.nil_append] at key
  rw [ev_lc, hi, bind_ok, if_pos ho, key]
  rfl
end
def B_all : MSs := .cons (.set 2 (.call "_law_joined" (.cons (.var 2) (.cons (.call "_law_does" (.cons (.var 3) .nil)) .nil)))) .nil
def E_one : ME := .lc (.tup (.cons (.idx (.var 2) (.int 0)) (.cons (.int 1) (.cons (.idx (.var 2) (.int 2)) (.cons (.idx (.var 2) (.int 3)) .nil))))) (.name 2) (.seq (.var 0)) .nil [("cast", 2)]
def oneD : D → D := fun d => match d with
  | .tup [l, _, a, b] => .tup [l, .int 1, a, b]
  | d => d
theorem oneD_ca (c : Ca) : oneD c.d = c.one.d := rfl
theorem oneD_map (cs : List Ca) : (cds cs).map oneD = cds (cs.map Ca.one) := by
  unfold cds
  rw [List.map_map, List.map_map]
  rfl
section
variable {G : GE}
theorem does_ca (hf : HasRow G) {n : Nat} (hn : 8 ≤ n) (c : Ca) (h : agree c.a c.b = true) (h1 : c.a.dep ≤ 2) (h2 : c.b.dep ≤ 2) (m : Mem) : callN G n "_law_does" [c.d] m = .ok (.val c.co.d) m :=
  does_at hf 2 n c.a c.b c.l c.s m h h1 h2 (by omega) (by omega)
theorem all_loop (hf : HasRow G) {n : Nat} {k z : Kd} {cs : List Ca} (h : Pth k cs z) : ∀ {x : Co} {a : Kd} (m : Mem) (t0 t1 t3 : Option Slot), Sh x a k → x.ht + 5 * cs.length + 8 ≤ n →
    ∃ t3', forEv (tgEv (.name 3)) (fun τ m => runSs G.consts (callN G n) B_all τ m) (cds cs) [t0, t1, some (.val x.d), t3] m = .nx [t0, t1, some (.val (allF x cs).d), t3'] m := by
  induction h with
  | nil a => intro x a m t0 t1 t3 hx hn; exact ⟨t3, rfl⟩
  | @cons c cs z h1 h3 h4 hp ih =>
    intro x a m t0 t1 t3 hx hn
    simp only [List.length_cons] at hn
    have hs := (sh_co _ _ c.l c.s h1).1
    have e1 := does_ca hf (n := n) (by omega) c h1 h3 h4 m
    have k := (ht_co c.a c.b c.l c.s 2 h3 h4).1
    have e2 := joined_at hf n x c.co _ _ _ m hx hs (by show x.ht + (P3.co c.l c.s c.a c.b).ht + 1 ≤ n; omega)
    have j := then_ht hx hs
    obtain ⟨t3', e3⟩ := ih m t0 t1 (some (.val c.d)) (then_sh hx hs) (by show (thenC x (P3.co c.l c.s c.a c.b)).ht + 5 * cs.length + 8 ≤ n; omega)
    refine ⟨t3', ?_⟩
    show forEv _ _ (c.d :: cds cs) _ m = _
    rw [for_cons]
    simp only [tg_name]
    have e4 : runSs G.consts (callN G n) B_all [t0, t1, some (.val x.d), some (.val c.d)] m = .nx [t0, t1, some (.val (thenC x c.co).d), some (.val c.d)] m := by
      simp [B_all, run_cons, e1, e2]
    show (match runSs G.consts (callN G n) B_all [t0, t1, some (.val x.d), some (.val c.d)] m with
      | .nx τ1 m1 => forEv _ _ _ τ1 m1
      | .ct τ1 m1 => forEv _ _ _ τ1 m1
      | .bk τ1 m1 => .nx τ1 m1
      | r => r) = _
    rw [e4]
    exact e3
theorem all_at (hf : HasRow G) {n : Nat} {k z : Kd} {cs : List Ca} (h : Pth k cs z) (hk : k.dep ≤ 2) (hn : 5 * cs.length + 11 ≤ n) (hl : cs.length ≤ 1000) (m : Mem) : callN G n "_law_all" [.fl (cds cs), k.d] m = .ok (.val (allC k cs).d) m := by
  obtain ⟨j, rfl⟩ : ∃ j, n = j + 1 := ⟨n - 1, by omega⟩
  rw [callN_eq hf.all rfl]
  have s := still_at hf j k m (by omega)
  have hi := ht_id k
  obtain ⟨t3, e⟩ := all_loop hf (n := j) h m (some (.val (.fl (cds cs)))) (some (.val k.d)) none (sh_id k) (by omega)
  have hlen : (cds cs).length ≤ 1000000 := by unfold cds; rw [List.length_map]; omega
  have hF : F__law_all = ⟨2, ["casts", "kind", "found", "cast"], .cons (.set 2 (.call "_law_still" (.cons (.var 1) .nil))) (.cons (.for_ (.name 3) (.seq (.var 0)) B_all) (.cons (.ret (.var 2)) .nil))⟩ := rfl
  rw [hF]
  simp [startT, run_cons, List.replicate, lim_eq, s, hlen, e]
theorem shut_at (hf : HasRow G) {n : Nat} (hn : 1 ≤ n) (c : Co) (m : Mem) : callN G n "_law_shut" [c.d] m = .ok (.val (.bl (!c.pass))) m := by
  obtain ⟨j, rfl⟩ : ∃ j, n = j + 1 := ⟨n - 1, by omega⟩
  rw [callN_eq hf.shut rfl]
  cases c with
  | frm l s t c => rw [pass_frm]; cases c <;> simp [F__law_shut, startT, run_cons, List.replicate, lim_eq, Co.isFail]
  | _ => simp [F__law_shut, startT, run_cons, List.replicate, lim_eq, Co.pass]
theorem leads_at (hf : HasRow G) {n : Nat} (hn : 1 ≤ n) {k z : Kd} {cs : List Ca} (h : Pth k cs z) (hl : cs.length ≤ 1000) (m : Mem) : callN G n "_law_leads" [.fl (cds cs), k.d] m = .ok (.val z.d) m := by
  obtain ⟨j, rfl⟩ : ∃ j, n = j + 1 := ⟨n - 1, by omega⟩
  rw [callN_eq hf.leads rfl]
  have hd : ∀ cs : List Ca, D.areData (cds cs) = true := by
    intro cs
    induction cs with
    | nil => rfl
    | cons c cs ih => show (c.d.isData && D.areData (cds cs)) = true; rw [ih]; simp [Ca.d, D.isData, D.areData, Kd.data]
  have heq : ∀ cs : List Ca, eqD (.fl (cds cs)) (.fl []) = some (cs.isEmpty) := by
    intro cs
    unfold eqD
    have h1 : (D.fl (cds cs)).isData = true := hd cs
    have h2 : (D.fl []).isData = true := rfl
    have h3 : (D.fl []).shal deepest = true := rfl
    rw [h1, h2, h3, Bool.or_true]
    cases cs <;> rfl
  have hlen : (cds cs).length ≤ 1000000 := by unfold cds; rw [List.length_map]; omega
  cases h with
  | nil a => simp [F__law_leads, startT, run_cons, List.replicate, lim_eq, heq]
  | @cons c cs z h1 h3 h4 hp =>
    have hz : ∀ (cs : List Ca) (c : Ca) {z : Kd}, Pth c.b cs z → ∃ w : Ca, D.at (cds (c :: cs)) (-1) = some w.d ∧ w.b = z := by
      intro cs
      induction cs with
      | nil => intro c z hp; exact ⟨c, rfl, pth_nil hp rfl⟩
      | cons c' cs ih =>
        intro c z hp
        obtain ⟨h0, h1, h3, h4, hp⟩ := pth_cons hp rfl
        · obtain ⟨w, e, hw⟩ := ih c' hp
          refine ⟨w, ?_, hw⟩
          rw [← e]
          unfold D.at placeOf
          have n1 : ¬ (0 : Int) ≤ -1 := by omega
          have n2 : -(((cds (c :: c' :: cs)).length : Nat) : Int) ≤ -1 := by simp [cds]; omega
          have n3 : -(((cds (c' :: cs)).length : Nat) : Int) ≤ -1 := by simp [cds]; omega
          rw [if_neg n1, if_neg n1, if_pos n2, if_pos n3]
          have l1 : (-1 + (((cds (c :: c' :: cs)).length : Nat) : Int)).toNat = cs.length + 1 := by simp [cds]; omega
          have l2 : (-1 + (((cds (c' :: cs)).length : Nat) : Int)).toNat = cs.length := by simp [cds]; omega
          simp only [Option.bind_some, l1, l2]
          show (c.d :: cds (c' :: cs))[cs.length + 1]? = _
          rw [List.getElem?_cons_succ]
    obtain ⟨w, e, hw⟩ := hz cs c hp
    have e : idxEv (.fl (cds (c :: cs))) (.int (-1)) = some w.d := by rw [idx_fl, if_pos (by rw [lim_eq]; exact hlen), e]
    have ww : idxEv w.d (.int 3) = some z.d := by rw [← hw]; rfl
    have dw : ∀ m, deref m w.d = w.d := fun m => rfl
    simp [F__law_leads, startT, run_cons, List.replicate, lim_eq, heq, -idx_fl, e, dw, ww]
theorem one_of_at (hf : HasRow G) {n : Nat} (hn : 2 ≤ n) {k z : Kd} {cs : List Ca} (h : Pth k cs z) (hl : cs.length ≤ 1000) (m : Mem) : callN G n "_law_one_of" [.fl (cds cs), k.d] m = .ok (.val (.tup [.fl (cds (cs.map Ca.one)), z.d])) m := by
  obtain ⟨j, rfl⟩ : ∃ j, n = j + 1 := ⟨n - 1, by omega⟩
  rw [callN_eq hf.oneof rfl]
  have e1 := leads_at hf (n := j) (by omega) h hl m
  have hlen : (cds cs).length ≤ 1000000 := by unfold cds; rw [List.length_map]; omega
  have e2 : evalE G.consts (callN G j) E_one [some (.val (.fl (cds cs))), some (.val k.d), none] m = .ok (.own (.lst (cds (cs.map Ca.one)))) m := by
    rw [← oneD_map]
    refine ev_lcMap oneD (cds cs) (by simp [lim_eq, hlen]) (by simp) (by rw [lim_eq]; exact hlen) fun x hx => ?_
    obtain ⟨c, hc, rfl⟩ := List.mem_map.mp hx
    exact ⟨_, rfl, by simp [Ca.d, oneD, lim_eq]⟩
  have hF : F__law_one_of = ⟨2, ["casts", "kind", "cast"], .cons (.ret (.tup (.cons E_one (.cons (.call "_law_leads" (.cons (.var 0) (.cons (.var 1) .nil))) .nil)))) .nil⟩ := rfl
  rw [hF]
  simp [startT, run_cons, List.replicate, lim_eq, e2, e1]
end
end P3
set_option Elab.async false
set_option linter.all false
set_option maxRecDepth 100000
set_option maxHeartbeats 0
/-! P8H: drawn rows of casts; the law's own judges -/
namespace P3
open PySem L2
def B_chain : MSs := (.cons (.set 5 (.call "_law_drift" (.cons (.var 0) (.cons (.var 1) (.cons (.int 2) .nil)))))
 (.cons (.append (.var 3) (.tup (.cons (.call "_law_draw" (.cons (.var 0) (.cons (.int 4) .nil))) (.cons (.bin .mod (.bin .mod (.call "_law_draw" (.cons (.var 0) (.cons (.int 4) .nil))) (.int 3)) (.int 2)) (.cons (.var 1) (.cons (.var 5) .nil))))))
 (.cons (.set 1 (.var 5))
 .nil)))
section
variable {G : GE}
theorem mod3 (i : Int) : binEv .mod (.int i) (.int 3) = some (.val (.int (i % 3))) := mod_p (by decide)
theorem mod2 (i : Int) : binEv .mod (.int i) (.int 2) = some (.val (.int (i % 2))) := mod_p (by decide)
theorem chain_step (hd : HasDraw G) (hf : HasRow G) {n : Nat} (hn : 10 ≤ n) {k : Kd} (hk : k.dep ≤ 2) {p : Pool} (hp : p.Ok) {acc : List Ca} (hl : acc.length < 1000) {t2 t4 t5 : Option Slot} :
    ∃ (c : Ca) (q : Pool), q.Ok ∧ c.a = k ∧ agree c.a c.b = true ∧ c.b.dep ≤ 2 ∧ (0 ≤ c.l ∧ c.l < 4) ∧ runSs G.consts (callN G n) B_chain [some (.val (.loc 0)), some (.val k.d), t2, some (.own (.lst (cds acc))), t4, t5] p.m = .nx [some (.val (.loc 0)), some (.val c.b.d), t2, some (.own (.lst (cds (acc ++ [c])))), t4, some (.val c.b.d)] q.m := by
  obtain ⟨b, q1, o1, d1, a1, e1⟩ := drift_ex hd hf.kind hf.drift k 2 (n := n) (by omega) hp
  obtain ⟨l, q2, o2, l1, l2, e2⟩ := draw_ex hd (n := n) (by omega) o1 (k := 4) (by omega) (by omega)
  obtain ⟨s, q3, o3, _, _, e3⟩ := draw_ex hd (n := n) (by omega) o2 (k := 4) (by omega) (by omega)
  have e1 : callN G n "_law_drift" [.loc 0, k.d, .int 2] p.m = .ok (.val b.d) q1.m := e1
  have hlen : (cds acc).length < 1000000 := by unfold cds; rw [List.length_map]; omega
  refine ⟨⟨l, s % 3 % 2, k, b⟩, q3, o3, rfl, by rw [agree_comm]; exact a1, by show b.dep ≤ 2; omega, ⟨l1, l2⟩, ?_⟩
  simp [B_chain, run_cons, e1, e2, e3, mod3, mod2, lim_eq, hlen]
  simp [cds, Ca.d]
theorem chain_loop (hd : HasDraw G) (hf : HasRow G) {n : Nat} (hn : 10 ≤ n) {t2 : Option Slot} : ∀ (xs : List D) {k : Kd} (hk : k.dep ≤ 2) {p : Pool} (hp : p.Ok) {acc : List Ca} (hl : acc.length + xs.length ≤ 1000) {t4 t5 : Option Slot},
    ∃ (cs : List Ca) (z : Kd) (q : Pool) (t4' t5' : Option Slot), q.Ok ∧ Pth k cs z ∧ cs.length = xs.length ∧ z.dep ≤ 2 ∧ (∀ c ∈ cs, 0 ≤ c.l ∧ c.l < 4) ∧ forEv (tgEv (.name 4)) (fun τ m => runSs G.consts (callN G n) B_chain τ m) xs [some (.val (.loc 0)), some (.val k.d), t2, some (.own (.lst (cds acc))), t4, t5] p.m = .nx [some (.val (.loc 0)), some (.val z.d), t2, some (.own (.lst (cds (acc ++ cs)))), t4', t5'] q.m
  | [], k, hk, p, hp, acc, hl, t4, t5 => ⟨[], k, p, t4, t5, hp, .nil k, rfl, hk, fun _ h => (by cases h), by rw [List.append_nil]; rfl⟩
  | x :: xs, k, hk, p, hp, acc, hl, t4, t5 => by
    simp only [List.length_cons] at hl
    obtain ⟨c, q1, o1, rfl, a1, d1, ll, e1⟩ := chain_step hd hf hn hk hp (acc := acc) (by omega) (t2 := t2) (t4 := some (.val x)) (t5 := t5)
    obtain ⟨cs, z, q, t4', t5', o2, hP, len, dz, lc, e2⟩ := chain_loop hd hf hn (t2 := t2) xs d1 o1 (acc := acc ++ [c]) (by simp only [List.length_append, List.length_cons, List.length_nil]; omega) (t4 := some (.val x)) (t5 := some (.val c.b.d))
    refine ⟨c :: cs, z, q, t4', t5', o2, .cons a1 hk d1 hP, by simp [len], dz, fun c' hc => ?_, ?_⟩
    · rcases List.mem_cons.mp hc with rfl | hc
      · exact ll
      · exact lc _ hc
    rw [for_cons]
    show (match runSs G.consts (callN G n) B_chain [some (.val (.loc 0)), some (.val c.a.d), t2, some (.own (.lst (cds acc))), some (.val x), t5] p.m with
      | .nx τ1 m1 => forEv _ _ _ τ1 m1
      | .ct τ1 m1 => forEv _ _ _ τ1 m1
      | .bk τ1 m1 => .nx τ1 m1
      | r => r) = _
    rw [e1]
    simp only
    rw [e2]
    simp
theorem range_len (i : Int) : (rangeOf 0 i).length = i.toNat := by simp [rangeOf]
theorem chain_ex (hd : HasDraw G) (hf : HasRow G) {n : Nat} (hn : 11 ≤ n) {k : Kd} (hk : k.dep ≤ 2) {p : Pool} (hp : p.Ok) {many : Int} (h0 : 0 ≤ many) (h1 : many ≤ 900) :
    ∃ (cs : List Ca) (z : Kd) (q : Pool), q.Ok ∧ Pth k cs z ∧ (cs.length : Int) = many ∧ z.dep ≤ 2 ∧ (∀ c ∈ cs, 0 ≤ c.l ∧ c.l < 4) ∧ callN G n "_law_chain" [.loc 0, k.d, .int many] p.m = .ok (.own (.lst (cds cs))) q.m := by
  obtain ⟨j, rfl⟩ : ∃ j, n = j + 1 := ⟨n - 1, by omega⟩
  have len := range_len many
  obtain ⟨cs, z, q, t4, t5, o, hP, hl, dz, lc, e⟩ := chain_loop hd hf (n := j) (by omega) (t2 := some (.val (.int many))) (rangeOf 0 many) hk hp (acc := []) (by rw [len]; simp; omega) (t4 := none) (t5 := none)
  refine ⟨cs, z, q, o, hP, by rw [hl, len]; omega, dz, lc, ?_⟩
  rw [callN_eq hf.chain rfl]
  have hF : F__law_chain = ⟨3, ["pool", "kind", "many", "casts", "k", "other"], .cons (.set 3 (.lst .nil)) (.cons (.for_ (.name 4) (.range1 (.var 2)) B_chain) (.cons (.ret (.var 3)) .nil))⟩ := rfl
  rw [hF]
  have hm : midInt many = true := by unfold midInt; simp; omega
  have e : forEv (tgEv (.name 4)) (fun τ m => runSs G.consts (callN G j) B_chain τ m) (rangeOf 0 many) [some (.val (.loc 0)), some (.val k.d), some (.val (.int many)), some (.own (.lst [])), none, none] p.m = _ := e
  simp [startT, run_cons, List.replicate, lim_eq, hm, e]
theorem in_any2 (a b : Kd) : cmpEv .in_ (.tup [.str "any"]) (.tup [a.d, b.d]) = some (.bl (a.isAny || b.isAny)) := by
  rw [in_tup]
  have h1 : (D.tup [.str "any"]).isData = true := rfl
  have h2 : D.areData [a.d, b.d] = true := by simp [D.areData, Kd.data]
  have h3 : (D.tup [.str "any"]).shal 100 = true := rfl
  rw [h1, h2, h3]
  have e : ∀ k : Kd, D.eqv k.d (.tup [.str "any"]) = k.isAny := fun k => by
    rw [← any_d, eqv_kd]
    cases k <;> rfl
  simp [e]
theorem agreeL_at (hf : G.fns.lookup "_law_agree" = some F__law_agree) : ∀ (n : Nat) (a b : Kd) (m : Mem), a.dep < n → callN G n "_law_agree" [a.d, b.d] m = .ok (.val (.bl (agree a b))) m
  | 0, _, _, _, h => by omega
  | n + 1, a, b, m, h => by
    have ih := agreeL_at hf n
    rw [callN_eq hf rfl]
    have r1 : rangeOf 1 1 = [] := rfl
    have r3 : rangeOf 1 3 = [.int 1, .int 2] := rfl
    have m1 : midInt 1 = true := by decide
    have m3 : midInt 3 = true := by decide
    cases a <;> cases b <;> (try simp only [dep_fn, dep_pr] at h) <;>
      simp [F__law_agree, startT, run_cons, lim_eq, lc_cons, agree, List.replicate, ih, h, in_any2, Kd.isAny, Kd.head, Kd.subs, r1, r3, m1, m3]
    · rename_i a b c d
      cases agree a c <;> cases agree b d <;> rfl
    · rename_i a b c d
      cases agree a c <;> cases agree b d <;> rfl
theorem eqD_to (t t' : Tg) : eqD (.tup [.str "to", .str t.s]) (.tup [.str "to", .str t'.s]) = some (decide (t = t')) := by
  rw [eqD_s2]; simp
theorem eqD_from (l s l' s' : Int) (t t' : Tg) : eqD (.tup [.str "from", .int l, .int s, .str t.s]) (.tup [.str "from", .int l', .int s', .str t'.s]) = some (decide (l = l') && decide (s = s') && decide (t = t')) := by
  unfold eqD
  have h1 : ∀ (l s : Int) (t : Tg), (D.tup [.str "from", .int l, .int s, .str t.s]).isData = true := fun _ _ _ => rfl
  have h3 : ∀ (l s : Int) (t : Tg), (D.tup [.str "from", .int l, .int s, .str t.s]).shal deepest = true := fun _ _ _ => rfl
  rw [h1, h1, h3, Bool.true_or]
  simp only [Bool.true_and, if_true, eqv_tup, eqvs_cons, eqvs_nil, eqv_str, eqv_int, Tg.s_beq]
  simp [Bool.and_assoc]
  rfl
theorem unlike_at (hf : HasRow G) (hu : G.fns.lookup "_law_unlike" = some F__law_unlike) : ∀ (n : Nat) (x y : Co) (m : Mem), x.ht + 2 ≤ n → x.ht < 200 → callN G n "_law_unlike" [x.d, y.d] m = .ok (.val (.bl (!alk x y))) m := by
  intro n
  induction n with
  | zero => intro x y m h; omega
  | succ j ih =>
    intro x y m h hx
    rw [callN_eq hu rfl]
    have e := eqD_co x y hx
    by_cases hxy : x = y
    · subst hxy
      rw [decide_eq_true rfl] at e
      rw [alk_self]
      simp [F__law_unlike, startT, run_cons, List.replicate, e]
    · rw [decide_eq_false hxy] at e
      have s1 : ∀ t c, slcEv (Co.to t c).d none (some (-1)) = some (.val (.tup [.str "to", .str t.s])) := fun _ _ => rfl
      have s2 : ∀ l s t c, slcEv (Co.frm l s t c).d none (some (-1)) = some (.val (.tup [.str "from", .int l, .int s, .str t.s])) := fun _ _ _ _ => rfl
      have s3 : ∀ t c, idxEv (Co.to t c).d (.int (-1)) = some c.d := fun _ _ => rfl
      have s4 : ∀ l s t c, idxEv (Co.frm l s t c).d (.int (-1)) = some c.d := fun _ _ _ _ => rfl
      cases x with
      | stay => cases y <;> first | exact absurd rfl hxy | simp [F__law_unlike, startT, run_cons, List.replicate, lim_eq, e, alk]
      | same => cases y <;> first | exact absurd rfl hxy | simp [F__law_unlike, startT, run_cons, List.replicate, lim_eq, e, alk]
      | fail l s =>
        have hal : alk (.fail l s) y = false := by
          cases hz : alk (.fail l s) y with
          | false => rfl
          | true => exact absurd (alk_fail hz).symm hxy
        rw [hal]
        cases y <;> simp [F__law_unlike, startT, run_cons, List.replicate, lim_eq, e]
      | frm l s t c =>
        simp only [Co.ht] at h hx
        cases y <;> try simp [F__law_unlike, startT, run_cons, List.replicate, lim_eq, e, alk]
        rename_i l' s' t' c'
        have i := ih c c' m (by omega) (by omega)
        cases hq : (decide (l = l') && decide (s = s') && decide (t = t')) <;> simp [s2, s4, eqD_from, hq, -Bool.and_eq_true, -Bool.and_eq_false_imp, -Bool.not_and, i]
        · simp at hq; grind
        · simp at hq; grind
      | to t c =>
        simp only [Co.ht] at h hx
        cases y <;> try simp [F__law_unlike, startT, run_cons, List.replicate, lim_eq, e, alk]
        rename_i t' c'
        have i := ih c c' m (by omega) (by omega)
        cases hq : decide (t = t') <;> simp [s1, s3, hq, i]
      | fn a b =>
        simp only [Co.ht] at h hx
        cases y <;> try simp [F__law_unlike, startT, run_cons, List.replicate, lim_eq, e, alk]
        rename_i a' b'
        have i1 := ih a a' m (by omega) (by omega)
        have i2 := ih b b' m (by omega) (by omega)
        have sh := shut_at hf (n := j) (by omega) a m
        cases hq : alk a a' <;> cases hp : a.pass <;> simp [i1, i2, sh, hq, hp]
      | pr a b =>
        simp only [Co.ht] at h hx
        cases y <;> try simp [F__law_unlike, startT, run_cons, List.replicate, lim_eq, e, alk]
        rename_i a' b'
        have i1 := ih a a' m (by omega) (by omega)
        have i2 := ih b b' m (by omega) (by omega)
        cases hq : alk a a' <;> simp [i1, i2, hq]
end
end P3
set_option Elab.async false
set_option linter.all false
set_option maxRecDepth 100000
set_option maxHeartbeats 0
/-! Q91: k91: judges of junk -/
namespace P3.K91
open PySem L2
abbrev G : GE := tG tbl cs ct
theorem ha : HasAny G := ⟨rfl⟩
theorem hr : HasRow G := ⟨rfl, rfl, rfl, rfl, rfl, rfl, rfl, rfl, rfl, rfl, rfl⟩
theorem hd : HasDraw G := ⟨rfl, rfl, rfl, rfl⟩
mutual
/-- junk, nested at most so deep, with few texts -/
def jk (S : List String) : Nat → D → Bool
  | n + 1, .tup xs => decide (xs.length ≤ 3) && jks S n xs
  | n + 1, .fl xs => decide (xs.length ≤ 3) && jks S n xs
  | _, .str s => S.contains s
  | _, .non => true
  | _, .bl _ => true
  | _, .int _ => true
  | _, _ => false
def jks (S : List String) : Nat → List D → Bool
  | _, [] => true
  | n, x :: xs => jk S n x && jks S n xs
end
theorem jks_cons (S : List String) (n : Nat) (x : D) (xs : List D) : jks S n (x :: xs) = (jk S n x && jks S n xs) := by cases n <;> rfl
theorem jk_tup (S : List String) (n : Nat) (xs : List D) : jk S (n + 1) (.tup xs) = (decide (xs.length ≤ 3) && jks S n xs) := rfl
theorem jk_fl (S : List String) (n : Nat) (xs : List D) : jk S (n + 1) (.fl xs) = (decide (xs.length ≤ 3) && jks S n xs) := rfl
theorem jk_data (S : List String) : ∀ (n : Nat) (d : D), jk S n d = true → d.isData = true ∧ d.shal n = true := by
  intro n
  induction n with
  | zero => intro d h; cases d <;> first | (simp [jk] at h; done) | exact ⟨rfl, rfl⟩
  | succ n ih =>
    have ihs : ∀ xs : List D, jks S n xs = true → D.areData xs = true ∧ D.shals n xs = true := by
      intro xs
      induction xs with
      | nil => intro _; exact ⟨rfl, by cases n <;> rfl⟩
      | cons x xs ix =>
        intro h
        rw [jks_cons, Bool.and_eq_true] at h
        obtain ⟨a1, a2⟩ := ih x h.1
        obtain ⟨b1, b2⟩ := ix h.2
        exact ⟨by simp [D.areData, a1, b1], by rw [shals_cons, a2, b2]; rfl⟩
    intro d h
    cases d with
    | tup xs =>
      rw [jk_tup, Bool.and_eq_true] at h
      obtain ⟨h1, h2⟩ := ihs xs h.2
      exact ⟨by simpa [D.isData] using h1, h2⟩
    | fl xs =>
      rw [jk_fl, Bool.and_eq_true] at h
      obtain ⟨h1, h2⟩ := ihs xs h.2
      exact ⟨by simpa [D.isData] using h1, h2⟩
    | fd _ => simp [jk] at h
    | loc _ => simp [jk] at h
    | fn _ => simp [jk] at h
    | _ => exact ⟨rfl, rfl⟩
/-- junk against a text -/
theorem eqD_jk {S : List String} {n : Nat} {d : D} (h : jk S n d = true) (s : String) : eqD d (.str s) = some (d.eqv (.str s)) := by
  unfold eqD
  have h2 : (D.str s).isData = true := rfl
  have h3 : (D.str s).shal deepest = true := rfl
  rw [(jk_data S n d h).1, h2, h3, Bool.or_true]
  rfl
/-! ### numbers -/
def isF (d : D) (lo hi : Int) : Bool := match d with
  | .int i => decide (lo ≤ i) && decide (i ≤ hi)
  | _ => false
theorem is_from_at {S : List String} {n : Nat} {d : D} (h : jk S n d = true) (lo hi : Int) {N : Nat} (hN : 2 ≤ N) (m : Mem) : callN G N "is_from" [d, .int lo, .int hi] m = .ok (.val (.bl (isF d lo hi))) m := by
  obtain ⟨j, rfl⟩ : ∃ j, N = j + 1 + 1 := ⟨N - 2, by omega⟩
  have h1 : callN G (j + 1) "is_integer" [d] m = .ok (.val (.bl (match d with | .int _ => true | _ => false))) m := by
    rw [callN_eq (fn := F_is_integer) rfl rfl]
    cases d <;> first | (cases n <;> simp [jk] at h; done) | simp [F_is_integer, startT, run_cons, List.replicate]
  rw [callN_eq (fn := F_is_from) rfl rfl]
  cases d <;> first | (cases n <;> simp [jk] at h; done) | skip
  all_goals (simp only at h1)
  case int i => by_cases c : lo ≤ i <;> simp [F_is_from, startT, run_cons, List.replicate, h1, c, isF]
  all_goals simp [F_is_from, startT, run_cons, List.replicate, h1, isF]
theorem law_is_at {S : List String} {n : Nat} {d : D} (h : jk S n d = true) (lo hi : Int) {N : Nat} (hN : 1 ≤ N) (m : Mem) : callN G N "_law_is" [d, .int lo, .int hi] m = .ok (.val (.bl (isF d lo hi))) m := by
  obtain ⟨j, rfl⟩ : ∃ j, N = j + 1 := ⟨N - 1, by omega⟩
  rw [callN_eq (fn := F__law_is) rfl rfl]
  cases d <;> first | (cases n <;> simp [jk] at h; done) | skip
  case int i => by_cases c : lo ≤ i <;> simp [F__law_is, startT, run_cons, List.replicate, c, isF]
  all_goals simp [F__law_is, startT, run_cons, List.replicate, isF]
def lab (a b : D) : Bool := isF a 0 199 && isF b 0 1
section
variable {S : List String} {n : Nat} {a b : D} {N : Nat} {m : Mem}
theorem is_label_at (h1 : jk S n a = true) (h2 : jk S n b = true) (hN : 3 ≤ N) : callN G N "is_label" [a, b] m = .ok (.val (.bl (lab a b))) m := by
  obtain ⟨j, rfl⟩ : ∃ j, N = j + 1 := ⟨N - 1, by omega⟩
  rw [callN_eq (fn := F_is_label) rfl rfl]
  have e1 := is_from_at h1 0 199 (N := j) (by omega) m
  have e2 := is_from_at h2 0 1 (N := j) (by omega) m
  have c : G.consts.lookup "LARGEST" = some (.int 200) := rfl
  cases q : isF a 0 199 <;> rw [q] at e1 <;> simp [F_is_label, startT, run_cons, List.replicate, c, e1, e2, lab, q]
theorem law_owner_at (h1 : jk S n a = true) (h2 : jk S n b = true) (hN : 2 ≤ N) : callN G N "_law_owner" [a, b] m = .ok (.val (.bl (lab a b))) m := by
  obtain ⟨j, rfl⟩ : ∃ j, N = j + 1 := ⟨N - 1, by omega⟩
  rw [callN_eq (fn := F__law_owner) rfl rfl]
  have e1 := law_is_at h1 0 199 (N := j) (by omega) m
  have e2 := law_is_at h2 0 1 (N := j) (by omega) m
  cases q : isF a 0 199 <;> rw [q] at e1 <;> simp [F__law_owner, startT, run_cons, List.replicate, e1, e2, lab, q]
end
/-! ### has_shape, _law_looks -/
theorem tl2 {t : List D} (h : t.length ≤ 2) : t = [] ∨ (∃ a, t = [a]) ∨ ∃ a b, t = [a, b] := by
  match t, h with
  | [], _ => exact .inl rfl
  | [a], _ => exact .inr (.inl ⟨a, rfl⟩)
  | [a, b], _ => exact .inr (.inr ⟨a, b, rfl⟩)
  | _ :: _ :: _ :: _, h => simp at h
theorem in_fl (a : D) (ys : List D) : cmpEv .in_ a (.fl ys) = if (a.isData && D.areData ys && a.shal 100) = true then some (.bl (ys.any fun y => y.eqv a)) else none := by
  cases a <;> rfl
theorem nin_fl (a : D) (ys : List D) : cmpEv .nin a (.fl ys) = if (a.isData && D.areData ys && a.shal 100) = true then some (.bl (!ys.any fun y => y.eqv a)) else none := by
  cases a <;> rfl
@[simp] theorem in_f4 (x a b c d : String) : cmpEv .in_ (.str x) (.fl [.str a, .str b, .str c, .str d]) = some (.bl (a == x || (b == x || (c == x || d == x)))) := by
  rw [in_fl]
  simp [D.isData, D.areData, sh_str, D.eqv]
theorem jk1 {S : List String} {n : Nat} {a : D} (h : jks S n [a] = true) : jk S n a = true := by
  rw [jks_cons, Bool.and_eq_true] at h; exact h.1
theorem jk2 {S : List String} {n : Nat} {a b : D} (h : jks S n [a, b] = true) : jk S n a = true ∧ jk S n b = true := by
  rw [jks_cons, jks_cons, Bool.and_eq_true, Bool.and_eq_true] at h; exact ⟨h.1, h.2.1⟩
def isTag (d : D) : Bool := match d with
  | .str x => "int" == x || ("bool" == x || ("fun" == x || "pair" == x))
  | _ => false
def isHd (s : String) : Bool := "same" == s || ("fun" == s || "pair" == s)
theorem tags_c : G.consts.lookup "TAGS" = some (.tup [.str "int", .str "bool", .str "fun", .str "pair"]) := rfl
theorem heads_c : G.consts.lookup "HEADS_coercions" = some (.tup [.str "same", .str "fun", .str "pair"]) := rfl
/-- the words of coercions -/
structure Oth (s : String) : Prop where
  a1 : ¬ s = "stay"
  a2 : ¬ s = "same"
  a3 : ¬ s = "fail"
  a4 : ¬ s = "from"
  a5 : ¬ s = "to"
  a6 : ¬ s = "fun"
  a7 : ¬ s = "pair"
  b1 : ¬ "stay" = s
  b2 : ¬ "same" = s
  b3 : ¬ "fail" = s
  b4 : ¬ "from" = s
  b5 : ¬ "to" = s
  b6 : ¬ "fun" = s
  b7 : ¬ "pair" = s
theorem words (s : String) : s = "stay" ∨ s = "same" ∨ s = "fail" ∨ s = "from" ∨ s = "to" ∨ s = "fun" ∨ s = "pair" ∨ Oth s := by
  by_cases a1 : s = "stay"; · exact .inl a1
  by_cases a2 : s = "same"; · exact .inr (.inl a2)
  by_cases a3 : s = "fail"; · exact .inr (.inr (.inl a3))
  by_cases a4 : s = "from"; · exact .inr (.inr (.inr (.inl a4)))
  by_cases a5 : s = "to"; · exact .inr (.inr (.inr (.inr (.inl a5))))
  by_cases a6 : s = "fun"; · exact .inr (.inr (.inr (.inr (.inr (.inl a6)))))
  by_cases a7 : s = "pair"; · exact .inr (.inr (.inr (.inr (.inr (.inr (.inl a7))))))
  exact .inr (.inr (.inr (.inr (.inr (.inr (.inr ⟨a1, a2, a3, a4, a5, a6, a7, fun e => a1 e.symm, fun e => a2 e.symm, fun e => a3 e.symm, fun e => a4 e.symm, fun e => a5 e.symm, fun e => a6 e.symm, fun e => a7 e.symm⟩))))))
/-- both say the same at every depth; true just of a tuple that begins with a text -/
def Both (f g : String) (lo : Nat) (args : List D) (d : D) : Prop := ∃ b, (∀ N m, lo ≤ N → callN G N f args m = .ok (.val (.bl b)) m) ∧ (∀ N m, lo ≤ N → callN G N g args m = .ok (.val (.bl b)) m) ∧ (b = true → ∃ s t, d = .tup (.str s :: t))
theorem both_ff {f g : String} {lo : Nat} {args : List D} {d : D} (h1 : ∀ N m, lo ≤ N → callN G N f args m = .ok (.val (.bl false)) m) (h2 : ∀ N m, lo ≤ N → callN G N g args m = .ok (.val (.bl false)) m) : Both f g lo args d := ⟨false, h1, h2, fun h => by cases h⟩
theorem jk_len {S : List String} {n : Nat} {s : String} {t : List D} (h : jk S n (.tup (.str s :: t)) = true) : t.length ≤ 999999 := by
  cases n with
  | zero => simp [jk] at h
  | succ n => rw [jk_tup, Bool.and_eq_true, decide_eq_true_eq] at h; have := h.1; simp only [List.length_cons] at this; omega
theorem shape_str {S : List String} {n : Nat} (ih : ∀ (d : D), jk S n d = true → ∀ (k : Int), Both "has_shape" "_law_looks" (n + 5) [d, .int k] d) {s : String} {t : List D} (hl : t.length ≤ 2) (ht : jks S n t = true) {k : Int} (c : ¬ k = 0) :
    Both "has_shape" "_law_looks" (n + 1 + 5) [.tup (.str s :: t), .int k] (.tup (.str s :: t)) := by
  have mk : ∀ b : Bool, (∀ N m, n + 1 + 5 ≤ N → callN G N "has_shape" [.tup (.str s :: t), .int k] m = .ok (.val (.bl b)) m) → (∀ N m, n + 1 + 5 ≤ N → callN G N "_law_looks" [.tup (.str s :: t), .int k] m = .ok (.val (.bl b)) m) → Both "has_shape" "_law_looks" (n + 1 + 5) [.tup (.str s :: t), .int k] (.tup (.str s :: t)) := fun b h1 h2 => ⟨b, h1, h2, fun _ => ⟨s, t, rfl⟩⟩
  rcases tl2 hl with rfl | ⟨a, rfl⟩ | ⟨a, b, rfl⟩
  · rcases words s with rfl | rfl | rfl | rfl | rfl | rfl | rfl | o
    · refine mk true ?_ ?_ <;> (intro N m hN; obtain ⟨j, rfl⟩ : ∃ j, N = j + 1 := ⟨N - 1, by omega⟩; have hj : n + 5 ≤ j := (by omega); have h3 : 3 ≤ j := (by omega); have h2 : 2 ≤ j := (by omega); have h1 : 1 ≤ j := (by omega); first | rw [callN_eq (fn := F_has_shape) rfl rfl] | rw [callN_eq (fn := F__law_looks) rfl rfl]) <;> simp [F_has_shape, F__law_looks, startT, run_cons, List.replicate, lim_eq, hj, h1, h2, h3, c]
    · refine mk true ?_ ?_ <;> (intro N m hN; obtain ⟨j, rfl⟩ : ∃ j, N = j + 1 := ⟨N - 1, by omega⟩; have hj : n + 5 ≤ j := (by omega); have h3 : 3 ≤ j := (by omega); have h2 : 2 ≤ j := (by omega); have h1 : 1 ≤ j := (by omega); first | rw [callN_eq (fn := F_has_shape) rfl rfl] | rw [callN_eq (fn := F__law_looks) rfl rfl]) <;> simp [F_has_shape, F__law_looks, startT, run_cons, List.replicate, lim_eq, hj, h1, h2, h3, c]
    · refine mk false ?_ ?_ <;> (intro N m hN; obtain ⟨j, rfl⟩ : ∃ j, N = j + 1 := ⟨N - 1, by omega⟩; have hj : n + 5 ≤ j := (by omega); have h3 : 3 ≤ j := (by omega); have h2 : 2 ≤ j := (by omega); have h1 : 1 ≤ j := (by omega); first | rw [callN_eq (fn := F_has_shape) rfl rfl] | rw [callN_eq (fn := F__law_looks) rfl rfl]) <;> simp [F_has_shape, F__law_looks, startT, run_cons, List.replicate, lim_eq, hj, h1, h2, h3, c]
    · refine mk false ?_ ?_ <;> (intro N m hN; obtain ⟨j, rfl⟩ : ∃ j, N = j + 1 := ⟨N - 1, by omega⟩; have hj : n + 5 ≤ j := (by omega); have h3 : 3 ≤ j := (by omega); have h2 : 2 ≤ j := (by omega); have h1 : 1 ≤ j := (by omega); first | rw [callN_eq (fn := F_has_shape) rfl rfl] | rw [callN_eq (fn := F__law_looks) rfl rfl]) <;> simp [F_has_shape, F__law_looks, startT, run_cons, List.replicate, lim_eq, hj, h1, h2, h3, c]
    · refine mk false ?_ ?_ <;> (intro N m hN; obtain ⟨j, rfl⟩ : ∃ j, N = j + 1 := ⟨N - 1, by omega⟩; have hj : n + 5 ≤ j := (by omega); have h3 : 3 ≤ j := (by omega); have h2 : 2 ≤ j := (by omega); have h1 : 1 ≤ j := (by omega); first | rw [callN_eq (fn := F_has_shape) rfl rfl] | rw [callN_eq (fn := F__law_looks) rfl rfl]) <;> simp [F_has_shape, F__law_looks, startT, run_cons, List.replicate, lim_eq, hj, h1, h2, h3, c]
    · refine mk false ?_ ?_ <;> (intro N m hN; obtain ⟨j, rfl⟩ : ∃ j, N = j + 1 := ⟨N - 1, by omega⟩; have hj : n + 5 ≤ j := (by omega); have h3 : 3 ≤ j := (by omega); have h2 : 2 ≤ j := (by omega); have h1 : 1 ≤ j := (by omega); first | rw [callN_eq (fn := F_has_shape) rfl rfl] | rw [callN_eq (fn := F__law_looks) rfl rfl]) <;> simp [F_has_shape, F__law_looks, startT, run_cons, List.replicate, lim_eq, hj, h1, h2, h3, c]
    · refine mk false ?_ ?_ <;> (intro N m hN; obtain ⟨j, rfl⟩ : ∃ j, N = j + 1 := ⟨N - 1, by omega⟩; have hj : n + 5 ≤ j := (by omega); have h3 : 3 ≤ j := (by omega); have h2 : 2 ≤ j := (by omega); have h1 : 1 ≤ j := (by omega); first | rw [callN_eq (fn := F_has_shape) rfl rfl] | rw [callN_eq (fn := F__law_looks) rfl rfl]) <;> simp [F_has_shape, F__law_looks, startT, run_cons, List.replicate, lim_eq, hj, h1, h2, h3, c]
    · refine mk false ?_ ?_ <;> (intro N m hN; obtain ⟨j, rfl⟩ : ∃ j, N = j + 1 := ⟨N - 1, by omega⟩; have hj : n + 5 ≤ j := (by omega); have h3 : 3 ≤ j := (by omega); have h2 : 2 ≤ j := (by omega); have h1 : 1 ≤ j := (by omega); first | rw [callN_eq (fn := F_has_shape) rfl rfl] | rw [callN_eq (fn := F__law_looks) rfl rfl]) <;> simp [F_has_shape, F__law_looks, startT, run_cons, List.replicate, lim_eq, hj, h1, h2, h3, c, o.a1, o.a2, o.a3, o.a4, o.a5, o.a6, o.a7, o.b1, o.b2, o.b3, o.b4, o.b5, o.b6, o.b7]
  · rcases words s with rfl | rfl | rfl | rfl | rfl | rfl | rfl | o
    · refine mk false ?_ ?_ <;> (intro N m hN; obtain ⟨j, rfl⟩ : ∃ j, N = j + 1 := ⟨N - 1, by omega⟩; have hj : n + 5 ≤ j := (by omega); have h3 : 3 ≤ j := (by omega); have h2 : 2 ≤ j := (by omega); have h1 : 1 ≤ j := (by omega); first | rw [callN_eq (fn := F_has_shape) rfl rfl] | rw [callN_eq (fn := F__law_looks) rfl rfl]) <;> simp [F_has_shape, F__law_looks, startT, run_cons, List.replicate, lim_eq, hj, h1, h2, h3, c]
    · refine mk false ?_ ?_ <;> (intro N m hN; obtain ⟨j, rfl⟩ : ∃ j, N = j + 1 := ⟨N - 1, by omega⟩; have hj : n + 5 ≤ j := (by omega); have h3 : 3 ≤ j := (by omega); have h2 : 2 ≤ j := (by omega); have h1 : 1 ≤ j := (by omega); first | rw [callN_eq (fn := F_has_shape) rfl rfl] | rw [callN_eq (fn := F__law_looks) rfl rfl]) <;> simp [F_has_shape, F__law_looks, startT, run_cons, List.replicate, lim_eq, hj, h1, h2, h3, c]
    · refine mk false ?_ ?_ <;> (intro N m hN; obtain ⟨j, rfl⟩ : ∃ j, N = j + 1 := ⟨N - 1, by omega⟩; have hj : n + 5 ≤ j := (by omega); have h3 : 3 ≤ j := (by omega); have h2 : 2 ≤ j := (by omega); have h1 : 1 ≤ j := (by omega); first | rw [callN_eq (fn := F_has_shape) rfl rfl] | rw [callN_eq (fn := F__law_looks) rfl rfl]) <;> simp [F_has_shape, F__law_looks, startT, run_cons, List.replicate, lim_eq, hj, h1, h2, h3, c]
    · refine mk false ?_ ?_ <;> (intro N m hN; obtain ⟨j, rfl⟩ : ∃ j, N = j + 1 := ⟨N - 1, by omega⟩; have hj : n + 5 ≤ j := (by omega); have h3 : 3 ≤ j := (by omega); have h2 : 2 ≤ j := (by omega); have h1 : 1 ≤ j := (by omega); first | rw [callN_eq (fn := F_has_shape) rfl rfl] | rw [callN_eq (fn := F__law_looks) rfl rfl]) <;> simp [F_has_shape, F__law_looks, startT, run_cons, List.replicate, lim_eq, hj, h1, h2, h3, c]
    · refine mk false ?_ ?_ <;> (intro N m hN; obtain ⟨j, rfl⟩ : ∃ j, N = j + 1 := ⟨N - 1, by omega⟩; have hj : n + 5 ≤ j := (by omega); have h3 : 3 ≤ j := (by omega); have h2 : 2 ≤ j := (by omega); have h1 : 1 ≤ j := (by omega); first | rw [callN_eq (fn := F_has_shape) rfl rfl] | rw [callN_eq (fn := F__law_looks) rfl rfl]) <;> simp [F_has_shape, F__law_looks, startT, run_cons, List.replicate, lim_eq, hj, h1, h2, h3, c]
    · refine mk false ?_ ?_ <;> (intro N m hN; obtain ⟨j, rfl⟩ : ∃ j, N = j + 1 := ⟨N - 1, by omega⟩; have hj : n + 5 ≤ j := (by omega); have h3 : 3 ≤ j := (by omega); have h2 : 2 ≤ j := (by omega); have h1 : 1 ≤ j := (by omega); first | rw [callN_eq (fn := F_has_shape) rfl rfl] | rw [callN_eq (fn := F__law_looks) rfl rfl]) <;> simp [F_has_shape, F__law_looks, startT, run_cons, List.replicate, lim_eq, hj, h1, h2, h3, c]
    · refine mk false ?_ ?_ <;> (intro N m hN; obtain ⟨j, rfl⟩ : ∃ j, N = j + 1 := ⟨N - 1, by omega⟩; have hj : n + 5 ≤ j := (by omega); have h3 : 3 ≤ j := (by omega); have h2 : 2 ≤ j := (by omega); have h1 : 1 ≤ j := (by omega); first | rw [callN_eq (fn := F_has_shape) rfl rfl] | rw [callN_eq (fn := F__law_looks) rfl rfl]) <;> simp [F_has_shape, F__law_looks, startT, run_cons, List.replicate, lim_eq, hj, h1, h2, h3, c]
    · refine mk false ?_ ?_ <;> (intro N m hN; obtain ⟨j, rfl⟩ : ∃ j, N = j + 1 := ⟨N - 1, by omega⟩; have hj : n + 5 ≤ j := (by omega); have h3 : 3 ≤ j := (by omega); have h2 : 2 ≤ j := (by omega); have h1 : 1 ≤ j := (by omega); first | rw [callN_eq (fn := F_has_shape) rfl rfl] | rw [callN_eq (fn := F__law_looks) rfl rfl]) <;> simp [F_has_shape, F__law_looks, startT, run_cons, List.replicate, lim_eq, hj, h1, h2, h3, c, o.a1, o.a2, o.a3, o.a4, o.a5, o.a6, o.a7, o.b1, o.b2, o.b3, o.b4, o.b5, o.b6, o.b7]
  · obtain ⟨ja, jb⟩ := jk2 ht
    rcases words s with rfl | rfl | rfl | rfl | rfl | rfl | rfl | o
    · refine mk false ?_ ?_ <;> (intro N m hN; obtain ⟨j, rfl⟩ : ∃ j, N = j + 1 := ⟨N - 1, by omega⟩; have hj : n + 5 ≤ j := (by omega); have h3 : 3 ≤ j := (by omega); have h2 : 2 ≤ j := (by omega); have h1 : 1 ≤ j := (by omega); first | rw [callN_eq (fn := F_has_shape) rfl rfl] | rw [callN_eq (fn := F__law_looks) rfl rfl]) <;> simp [F_has_shape, F__law_looks, startT, run_cons, List.replicate, lim_eq, hj, h1, h2, h3, c]
    · refine mk false ?_ ?_ <;> (intro N m hN; obtain ⟨j, rfl⟩ : ∃ j, N = j + 1 := ⟨N - 1, by omega⟩; have hj : n + 5 ≤ j := (by omega); have h3 : 3 ≤ j := (by omega); have h2 : 2 ≤ j := (by omega); have h1 : 1 ≤ j := (by omega); first | rw [callN_eq (fn := F_has_shape) rfl rfl] | rw [callN_eq (fn := F__law_looks) rfl rfl]) <;> simp [F_has_shape, F__law_looks, startT, run_cons, List.replicate, lim_eq, hj, h1, h2, h3, c]
    · have l1 := fun N m (h : 3 ≤ N) => is_label_at (N := N) (m := m) ja jb h
      have l2 := fun N m (h : 2 ≤ N) => law_owner_at (N := N) (m := m) ja jb h
      refine mk (lab a b) ?_ ?_ <;> (intro N m hN; obtain ⟨j, rfl⟩ : ∃ j, N = j + 1 := ⟨N - 1, by omega⟩; have hj : n + 5 ≤ j := (by omega); have h3 : 3 ≤ j := (by omega); have h2 : 2 ≤ j := (by omega); have h1 : 1 ≤ j := (by omega); first | rw [callN_eq (fn := F_has_shape) rfl rfl] | rw [callN_eq (fn := F__law_looks) rfl rfl]) <;> simp [F_has_shape, F__law_looks, startT, run_cons, List.replicate, lim_eq, hj, h1, h2, h3, c, l1, l2]
    · refine mk false ?_ ?_ <;> (intro N m hN; obtain ⟨j, rfl⟩ : ∃ j, N = j + 1 := ⟨N - 1, by omega⟩; have hj : n + 5 ≤ j := (by omega); have h3 : 3 ≤ j := (by omega); have h2 : 2 ≤ j := (by omega); have h1 : 1 ≤ j := (by omega); first | rw [callN_eq (fn := F_has_shape) rfl rfl] | rw [callN_eq (fn := F__law_looks) rfl rfl]) <;> simp [F_has_shape, F__law_looks, startT, run_cons, List.replicate, lim_eq, hj, h1, h2, h3, c, tags_c, heads_c]
    · obtain ⟨bb, e1, e2, e3⟩ := ih b jb (k - 1)
      by_cases hs : ∃ x, a = .str x
      · obtain ⟨x, rfl⟩ := hs
        cases q : ("int" == x || ("bool" == x || ("fun" == x || "pair" == x))) with
        | false => refine mk false ?_ ?_ <;> (intro N m hN; obtain ⟨j, rfl⟩ : ∃ j, N = j + 1 := ⟨N - 1, by omega⟩; have hj : n + 5 ≤ j := (by omega); have h3 : 3 ≤ j := (by omega); have h2 : 2 ≤ j := (by omega); have h1 : 1 ≤ j := (by omega); first | rw [callN_eq (fn := F_has_shape) rfl rfl] | rw [callN_eq (fn := F__law_looks) rfl rfl]) <;> simp [F_has_shape, F__law_looks, startT, run_cons, List.replicate, lim_eq, hj, h1, h2, h3, c, tags_c, heads_c, q, -Bool.or_eq_true, -Bool.or_eq_false_iff]
        | true =>
          cases bb with
          | false => refine mk false ?_ ?_ <;> (intro N m hN; obtain ⟨j, rfl⟩ : ∃ j, N = j + 1 := ⟨N - 1, by omega⟩; have hj : n + 5 ≤ j := (by omega); have h3 : 3 ≤ j := (by omega); have h2 : 2 ≤ j := (by omega); have h1 : 1 ≤ j := (by omega); first | rw [callN_eq (fn := F_has_shape) rfl rfl] | rw [callN_eq (fn := F__law_looks) rfl rfl]) <;> simp [F_has_shape, F__law_looks, startT, run_cons, List.replicate, lim_eq, hj, h1, h2, h3, c, tags_c, heads_c, e1, e2, q, -Bool.or_eq_true, -Bool.or_eq_false_iff]
          | true =>
            obtain ⟨s', t', rfl⟩ := e3 rfl
            have hl' := jk_len jb
            refine mk (isHd s') ?_ ?_ <;> (intro N m hN; obtain ⟨j, rfl⟩ : ∃ j, N = j + 1 := ⟨N - 1, by omega⟩; have hj : n + 5 ≤ j := (by omega); have h3 : 3 ≤ j := (by omega); have h2 : 2 ≤ j := (by omega); have h1 : 1 ≤ j := (by omega); first | rw [callN_eq (fn := F_has_shape) rfl rfl] | rw [callN_eq (fn := F__law_looks) rfl rfl]) <;> simp [F_has_shape, F__law_looks, startT, run_cons, List.replicate, lim_eq, hj, h1, h2, h3, c, tags_c, heads_c, e1, e2, hl', isHd, q, -Bool.or_eq_true, -Bool.or_eq_false_iff]
      · have hs : ∀ x, a ≠ .str x := fun x e => hs ⟨x, e⟩
        have hi : isiEv .str a = some false := by cases a <;> first | (cases n <;> simp [jk] at ja; done) | exact absurd rfl (hs _) | rfl
        refine mk false ?_ ?_ <;> (intro N m hN; obtain ⟨j, rfl⟩ : ∃ j, N = j + 1 := ⟨N - 1, by omega⟩; have hj : n + 5 ≤ j := (by omega); have h3 : 3 ≤ j := (by omega); have h2 : 2 ≤ j := (by omega); have h1 : 1 ≤ j := (by omega); first | rw [callN_eq (fn := F_has_shape) rfl rfl] | rw [callN_eq (fn := F__law_looks) rfl rfl]) <;> simp [F_has_shape, F__law_looks, startT, run_cons, List.replicate, lim_eq, hj, h1, h2, h3, c, tags_c, heads_c, hi]
    · obtain ⟨b1, e1, e2, _⟩ := ih a ja (k - 1)
      obtain ⟨b2, e3, e4, _⟩ := ih b jb (k - 1)
      cases b1 with
      | false => refine mk false ?_ ?_ <;> (intro N m hN; obtain ⟨j, rfl⟩ : ∃ j, N = j + 1 := ⟨N - 1, by omega⟩; have hj : n + 5 ≤ j := (by omega); have h3 : 3 ≤ j := (by omega); have h2 : 2 ≤ j := (by omega); have h1 : 1 ≤ j := (by omega); first | rw [callN_eq (fn := F_has_shape) rfl rfl] | rw [callN_eq (fn := F__law_looks) rfl rfl]) <;> simp [F_has_shape, F__law_looks, startT, run_cons, List.replicate, lim_eq, hj, h1, h2, h3, c, e1, e2, e3, e4, lc_cons]
      | true => refine mk b2 ?_ ?_ <;> (intro N m hN; obtain ⟨j, rfl⟩ : ∃ j, N = j + 1 := ⟨N - 1, by omega⟩; have hj : n + 5 ≤ j := (by omega); have h3 : 3 ≤ j := (by omega); have h2 : 2 ≤ j := (by omega); have h1 : 1 ≤ j := (by omega); first | rw [callN_eq (fn := F_has_shape) rfl rfl] | rw [callN_eq (fn := F__law_looks) rfl rfl]) <;> simp [F_has_shape, F__law_looks, startT, run_cons, List.replicate, lim_eq, hj, h1, h2, h3, c, e1, e2, e3, e4, lc_cons]
    · obtain ⟨b1, e1, e2, _⟩ := ih a ja (k - 1)
      obtain ⟨b2, e3, e4, _⟩ := ih b jb (k - 1)
      cases b1 with
      | false => refine mk false ?_ ?_ <;> (intro N m hN; obtain ⟨j, rfl⟩ : ∃ j, N = j + 1 := ⟨N - 1, by omega⟩; have hj : n + 5 ≤ j := (by omega); have h3 : 3 ≤ j := (by omega); have h2 : 2 ≤ j := (by omega); have h1 : 1 ≤ j := (by omega); first | rw [callN_eq (fn := F_has_shape) rfl rfl] | rw [callN_eq (fn := F__law_looks) rfl rfl]) <;> simp [F_has_shape, F__law_looks, startT, run_cons, List.replicate, lim_eq, hj, h1, h2, h3, c, e1, e2, e3, e4, lc_cons]
      | true => refine mk b2 ?_ ?_ <;> (intro N m hN; obtain ⟨j, rfl⟩ : ∃ j, N = j + 1 := ⟨N - 1, by omega⟩; have hj : n + 5 ≤ j := (by omega); have h3 : 3 ≤ j := (by omega); have h2 : 2 ≤ j := (by omega); have h1 : 1 ≤ j := (by omega); first | rw [callN_eq (fn := F_has_shape) rfl rfl] | rw [callN_eq (fn := F__law_looks) rfl rfl]) <;> simp [F_has_shape, F__law_looks, startT, run_cons, List.replicate, lim_eq, hj, h1, h2, h3, c, e1, e2, e3, e4, lc_cons]
    · refine mk false ?_ ?_ <;> (intro N m hN; obtain ⟨j, rfl⟩ : ∃ j, N = j + 1 := ⟨N - 1, by omega⟩; have hj : n + 5 ≤ j := (by omega); have h3 : 3 ≤ j := (by omega); have h2 : 2 ≤ j := (by omega); have h1 : 1 ≤ j := (by omega); first | rw [callN_eq (fn := F_has_shape) rfl rfl] | rw [callN_eq (fn := F__law_looks) rfl rfl]) <;> simp [F_has_shape, F__law_looks, startT, run_cons, List.replicate, lim_eq, hj, h1, h2, h3, c, o.a1, o.a2, o.a3, o.a4, o.a5, o.a6, o.a7, o.b1, o.b2, o.b3, o.b4, o.b5, o.b6, o.b7]
theorem not_tup {S : List String} {n : Nat} {d : D} (h : jk S n d = true) (hd : ∀ xs, d ≠ .tup xs) : isiEv .tuple d = some false := by
  cases d <;> first | (cases n <;> simp [jk] at h; done) | exact absurd rfl (hd _) | rfl
theorem not_str {S : List String} {n : Nat} {d : D} (h : jk S n d = true) (hd : ∀ s, d ≠ .str s) : isiEv .str d = some false := by
  cases d <;> first | (cases n <;> simp [jk] at h; done) | exact absurd rfl (hd _) | rfl
theorem shape_at {S : List String} : ∀ (n : Nat) (d : D), jk S n d = true → ∀ (k : Int), Both "has_shape" "_law_looks" (n + 5) [d, .int k] d := by
  intro n
  induction n with
  | zero =>
    intro d h k
    have hd : ∀ xs, d ≠ .tup xs := fun xs e => by rw [e] at h; simp [jk] at h
    have hi := not_tup h hd
    by_cases c : k = 0
    · subst c; refine both_ff ?_ ?_ <;> (intro N m hN; obtain ⟨j, rfl⟩ : ∃ j, N = j + 1 := ⟨N - 1, by omega⟩; have hj : 4 ≤ j := (by omega); have h3 : 3 ≤ j := (by omega); have h2 : 2 ≤ j := (by omega); have h1 : 1 ≤ j := (by omega); first | rw [callN_eq (fn := F_has_shape) rfl rfl] | rw [callN_eq (fn := F__law_looks) rfl rfl]) <;> simp [F_has_shape, F__law_looks, startT, run_cons, List.replicate, lim_eq, hj, h1, h2, h3]
    · refine both_ff ?_ ?_ <;> (intro N m hN; obtain ⟨j, rfl⟩ : ∃ j, N = j + 1 := ⟨N - 1, by omega⟩; have hj : 4 ≤ j := (by omega); have h3 : 3 ≤ j := (by omega); have h2 : 2 ≤ j := (by omega); have h1 : 1 ≤ j := (by omega); first | rw [callN_eq (fn := F_has_shape) rfl rfl] | rw [callN_eq (fn := F__law_looks) rfl rfl]) <;> simp [F_has_shape, F__law_looks, startT, run_cons, List.replicate, lim_eq, hj, h1, h2, h3, c, hi]
  | succ n ih =>
    intro d h k
    by_cases c : k = 0
    · subst c; refine both_ff ?_ ?_ <;> (intro N m hN; obtain ⟨j, rfl⟩ : ∃ j, N = j + 1 := ⟨N - 1, by omega⟩; have hj : n + 5 ≤ j := (by omega); have h3 : 3 ≤ j := (by omega); have h2 : 2 ≤ j := (by omega); have h1 : 1 ≤ j := (by omega); first | rw [callN_eq (fn := F_has_shape) rfl rfl] | rw [callN_eq (fn := F__law_looks) rfl rfl]) <;> simp [F_has_shape, F__law_looks, startT, run_cons, List.replicate, lim_eq, hj, h1, h2, h3]
    by_cases hd : ∃ xs, d = .tup xs
    · obtain ⟨xs, rfl⟩ := hd
      rw [jk_tup, Bool.and_eq_true, decide_eq_true_eq] at h
      obtain ⟨hl, hx⟩ := h
      cases xs with
      | nil => refine both_ff ?_ ?_ <;> (intro N m hN; obtain ⟨j, rfl⟩ : ∃ j, N = j + 1 := ⟨N - 1, by omega⟩; have hj : n + 5 ≤ j := (by omega); have h3 : 3 ≤ j := (by omega); have h2 : 2 ≤ j := (by omega); have h1 : 1 ≤ j := (by omega); first | rw [callN_eq (fn := F_has_shape) rfl rfl] | rw [callN_eq (fn := F__law_looks) rfl rfl]) <;> simp [F_has_shape, F__law_looks, startT, run_cons, List.replicate, lim_eq, hj, h1, h2, h3, c]
      | cons w t =>
        rw [jks_cons, Bool.and_eq_true] at hx
        obtain ⟨hw, ht⟩ := hx
        simp only [List.length_cons] at hl
        have hl9 : t.length ≤ 999999 := by omega
        by_cases hs : ∃ s, w = .str s
        · obtain ⟨s, rfl⟩ := hs
          exact shape_str ih (by omega) ht c
        · have hs := not_str hw fun s e => hs ⟨s, e⟩
          refine both_ff ?_ ?_ <;> (intro N m hN; obtain ⟨j, rfl⟩ : ∃ j, N = j + 1 := ⟨N - 1, by omega⟩; have hj : n + 5 ≤ j := (by omega); have h3 : 3 ≤ j := (by omega); have h2 : 2 ≤ j := (by omega); have h1 : 1 ≤ j := (by omega); first | rw [callN_eq (fn := F_has_shape) rfl rfl] | rw [callN_eq (fn := F__law_looks) rfl rfl]) <;> simp [F_has_shape, F__law_looks, startT, run_cons, List.replicate, lim_eq, hj, h1, h2, h3, c, hl9, hs]
    · have hi := not_tup h fun xs e => hd ⟨xs, e⟩
      refine both_ff ?_ ?_ <;> (intro N m hN; obtain ⟨j, rfl⟩ : ∃ j, N = j + 1 := ⟨N - 1, by omega⟩; have hj : n + 5 ≤ j := (by omega); have h3 : 3 ≤ j := (by omega); have h2 : 2 ≤ j := (by omega); have h1 : 1 ≤ j := (by omega); first | rw [callN_eq (fn := F_has_shape) rfl rfl] | rw [callN_eq (fn := F__law_looks) rfl rfl]) <;> simp [F_has_shape, F__law_looks, startT, run_cons, List.replicate, lim_eq, hj, h1, h2, h3, c, hi]
end P3.K91
set_option Elab.async false
set_option linter.all false
set_option maxRecDepth 100000
set_option maxHeartbeats 0
/-! R91: k91: judges of junk: coercions -/
namespace P3.K91
open PySem L2
theorem any_c : G.consts.lookup "ANY" = some (.tup [.str "any"]) := rfl
/-- what is_coercion asks of a head, what it asks of a tag -/
theorem co_ff {S : List String} {n : Nat} {d : D} (h : jk S n d = true) (hd : (∀ xs, d ≠ .tup xs) ∨ d = .tup [] ∨ ∃ w t, d = .tup (w :: t) ∧ t.length ≤ 999999 ∧ isiEv .str w = some false) (one two : Kd) (lo : Nat) : Both "is_coercion" "_law_is_co" (lo + 9) [d, one.d, two.d] d := by
  rcases hd with hd | rfl | ⟨w, t, rfl, hl, hs⟩
  · have hi := not_tup h hd
    refine both_ff ?_ ?_ <;> (intro N m hN; obtain ⟨j, rfl⟩ : ∃ j, N = j + 1 := ⟨N - 1, by omega⟩; have hj : lo + 8 ≤ j := (by omega); have h3 : 3 ≤ j := (by omega); have h2 : 2 ≤ j := (by omega); have h1 : 1 ≤ j := (by omega); first | rw [callN_eq (fn := F_is_coercion) rfl rfl] | rw [callN_eq (fn := F__law_is_co) rfl rfl]) <;> simp [F_is_coercion, F__law_is_co, startT, run_cons, List.replicate, lim_eq, hj, h1, h2, h3, hi]
  · refine both_ff ?_ ?_ <;> (intro N m hN; obtain ⟨j, rfl⟩ : ∃ j, N = j + 1 := ⟨N - 1, by omega⟩; have hj : lo + 8 ≤ j := (by omega); have h3 : 3 ≤ j := (by omega); have h2 : 2 ≤ j := (by omega); have h1 : 1 ≤ j := (by omega); first | rw [callN_eq (fn := F_is_coercion) rfl rfl] | rw [callN_eq (fn := F__law_is_co) rfl rfl]) <;> simp [F_is_coercion, F__law_is_co, startT, run_cons, List.replicate, lim_eq, hj, h1, h2, h3]
  · refine both_ff ?_ ?_ <;> (intro N m hN; obtain ⟨j, rfl⟩ : ∃ j, N = j + 1 := ⟨N - 1, by omega⟩; have hj : lo + 8 ≤ j := (by omega); have h3 : 3 ≤ j := (by omega); have h2 : 2 ≤ j := (by omega); have h1 : 1 ≤ j := (by omega); first | rw [callN_eq (fn := F_is_coercion) rfl rfl] | rw [callN_eq (fn := F__law_is_co) rfl rfl]) <;> simp [F_is_coercion, F__law_is_co, startT, run_cons, List.replicate, lim_eq, hj, h1, h2, h3, hl, hs]
def isIB : Kd → Bool
  | .int => true
  | .bool => true
  | _ => false
theorem in_kany (k : Kd) (h : k.dep < 100) : cmpEv .in_ k.d (.fl [.tup [.str "any"]]) = some (.bl k.isAny) := by
  rw [in_fl]
  have h1 : D.areData [.tup [.str "any"]] = true := rfl
  rw [k.data, h1, shal_kd 100 k h]
  have e : D.eqv (.tup [.str "any"]) k.d = k.isAny := by rw [← any_d, eqv_kd]; cases k <;> rfl
  simp [e]
theorem in_kib (k : Kd) (h : k.dep < 100) : cmpEv .in_ k.d (.fl [.tup [.str "int"], .tup [.str "bool"]]) = some (.bl (isIB k)) := by
  rw [in_fl]
  have h1 : D.areData [.tup [.str "int"], .tup [.str "bool"]] = true := rfl
  rw [k.data, h1, shal_kd 100 k h]
  have e1 : D.eqv (.tup [.str "int"]) k.d = (Kd.int == k) := by rw [← int_d, eqv_kd]
  have e2 : D.eqv (.tup [.str "bool"]) k.d = (Kd.bool == k) := by
    have : (.tup [.str "bool"] : D) = Kd.bool.d := rfl
    rw [this, eqv_kd]
  simp only [List.any_cons, List.any_nil, e1, e2, Bool.or_false]
  cases k <;> rfl
theorem ib_head (k : Kd) : ("int" == k.head || "bool" == k.head) = isIB k := by cases k <;> rfl
theorem any_beq (k : Kd) : (Kd.any == k) = k.isAny := by cases k <;> rfl
theorem beq_any (k : Kd) : (k == Kd.any) = k.isAny := by cases k <;> rfl
theorem isAny_eq {k : Kd} (h : k.isAny = true) : k = .any := by cases k <;> first | rfl | cases h
theorem ground_c {N : Nat} (h : 1 ≤ N) (k : Kd) (hk : k.isAny = false) (m : Mem) : callN G N "ground" [k.d] m = .ok (.val k.gr.d) m := by
  obtain ⟨j, rfl⟩ : ∃ j, N = j + 1 := ⟨N - 1, by omega⟩
  rw [callN_eq (fn := F_ground) rfl rfl]
  cases k <;> simp [Kd.isAny] at hk <;> simp [F_ground, startT, run_cons, List.replicate, lim_eq, any_c, Kd.d, Kd.gr, Kd.tg, Tg.k]
theorem eqv_nostr {S : List String} {n : Nat} {a : D} (h : jk S n a = true) (hs : ∀ s, a ≠ .str s) (x : String) : a.eqv (.str x) = false := by
  cases a <;> first | (cases n <;> simp [jk] at h; done) | exact absurd rfl (hs _) | rfl
theorem co_str {S : List String} {n : Nat} (ih : ∀ (d : D), jk S n d = true → ∀ one two : Kd, one.dep < 90 → two.dep < 90 → Both "is_coercion" "_law_is_co" (2 * n + 9) [d, one.d, two.d] d) {s : String} {t : List D} (hl : t.length ≤ 2) (ht : jks S n t = true) (one two : Kd) (d1 : one.dep < 90) (d2 : two.dep < 90) :
    Both "is_coercion" "_law_is_co" (2 * (n + 1) + 9) [.tup (.str s :: t), one.d, two.d] (.tup (.str s :: t)) := by
  have mk : ∀ b : Bool, (∀ N m, 2 * (n + 1) + 9 ≤ N → callN G N "is_coercion" [.tup (.str s :: t), one.d, two.d] m = .ok (.val (.bl b)) m) → (∀ N m, 2 * (n + 1) + 9 ≤ N → callN G N "_law_is_co" [.tup (.str s :: t), one.d, two.d] m = .ok (.val (.bl b)) m) → Both "is_coercion" "_law_is_co" (2 * (n + 1) + 9) [.tup (.str s :: t), one.d, two.d] (.tup (.str s :: t)) := fun b h1 h2 => ⟨b, h1, h2, fun _ => ⟨s, t, rfl⟩⟩
  have e := eqD_kd one two (by omega)
  have k1 := in_kany one (by omega)
  have k2 := in_kib one (by omega)
  have hd9 : ∀ N m, 1 ≤ N → t.length ≠ 2 → (s = "fun" ∨ s = "pair") → callN G N "is_head" [.tup (.str s :: t), one.d, two.d] m = .ok (.val (.bl false)) m := by
    intro N m hN hlen hs
    obtain ⟨j, rfl⟩ : ∃ j, N = j + 1 := ⟨N - 1, by omega⟩
    rw [callN_eq (fn := F_is_head) rfl rfl]
    rcases tl2 hl with rfl | ⟨a, rfl⟩ | ⟨a, b, rfl⟩
    · rcases hs with rfl | rfl <;> simp [F_is_head, startT, run_cons, List.replicate, lim_eq]
    · rcases hs with rfl | rfl <;> simp [F_is_head, startT, run_cons, List.replicate, lim_eq]
    · simp at hlen
  have hdS : ∀ N m, 1 ≤ N → s = "same" → callN G N "is_head" [.tup (.str s :: t), one.d, two.d] m = .ok (.val (.bl (t.isEmpty && ((one == two) && isIB one)))) m := by
    intro N m hN hs
    subst hs
    obtain ⟨j, rfl⟩ : ∃ j, N = j + 1 := ⟨N - 1, by omega⟩
    rw [callN_eq (fn := F_is_head) rfl rfl]
    rcases tl2 hl with rfl | ⟨a, rfl⟩ | ⟨a, b, rfl⟩
    · rw [← ib_head]
      cases q : (one == two) <;> rw [q] at e <;> simp [F_is_head, startT, run_cons, List.replicate, lim_eq, e]
    · simp [F_is_head, startT, run_cons, List.replicate, lim_eq]
    · simp [F_is_head, startT, run_cons, List.replicate, lim_eq]
  rcases tl2 hl with rfl | ⟨a, rfl⟩ | ⟨a, b, rfl⟩
  · rcases words s with rfl | rfl | rfl | rfl | rfl | rfl | rfl | o
    · cases q1 : one.isAny with
      | false =>
        rw [q1] at k1
        cases q : (one == two) <;> rw [q] at e
        · refine mk false ?_ ?_
          · (intro N m hN; obtain ⟨j, rfl⟩ : ∃ j, N = j + 1 := ⟨N - 1, by omega⟩; have hj : 2 * n + 10 ≤ j := (by omega); have h3 : 3 ≤ j := (by omega); have h2 : 2 ≤ j := (by omega); have h1 : 1 ≤ j := (by omega); first | rw [callN_eq (fn := F_is_coercion) rfl rfl]) <;> simp [F_is_coercion, startT, run_cons, List.replicate, lim_eq, hj, h1, h2, h3, any_c, heads_c, q1, e, k1]
          · (intro N m hN; obtain ⟨j, rfl⟩ : ∃ j, N = j + 1 := ⟨N - 1, by omega⟩; have hj : 2 * n + 10 ≤ j := (by omega); have h3 : 3 ≤ j := (by omega); have h2 : 2 ≤ j := (by omega); have h1 : 1 ≤ j := (by omega); first | rw [callN_eq (fn := F__law_is_co) rfl rfl]) <;> simp [F__law_is_co, startT, run_cons, List.replicate, lim_eq, hj, h1, h2, h3, q1, e, k1]
        · refine mk false ?_ ?_
          · (intro N m hN; obtain ⟨j, rfl⟩ : ∃ j, N = j + 1 := ⟨N - 1, by omega⟩; have hj : 2 * n + 10 ≤ j := (by omega); have h3 : 3 ≤ j := (by omega); have h2 : 2 ≤ j := (by omega); have h1 : 1 ≤ j := (by omega); first | rw [callN_eq (fn := F_is_coercion) rfl rfl]) <;> simp [F_is_coercion, startT, run_cons, List.replicate, lim_eq, hj, h1, h2, h3, any_c, heads_c, q1, e, k1]
          · (intro N m hN; obtain ⟨j, rfl⟩ : ∃ j, N = j + 1 := ⟨N - 1, by omega⟩; have hj : 2 * n + 10 ≤ j := (by omega); have h3 : 3 ≤ j := (by omega); have h2 : 2 ≤ j := (by omega); have h1 : 1 ≤ j := (by omega); first | rw [callN_eq (fn := F__law_is_co) rfl rfl]) <;> simp [F__law_is_co, startT, run_cons, List.replicate, lim_eq, hj, h1, h2, h3, q1, e, k1]
      | true =>
        have := isAny_eq q1
        subst this
        rw [any_beq] at e
        cases q2 : two.isAny <;> rw [q2] at e
        · refine mk false ?_ ?_
          · (intro N m hN; obtain ⟨j, rfl⟩ : ∃ j, N = j + 1 := ⟨N - 1, by omega⟩; have hj : 2 * n + 10 ≤ j := (by omega); have h3 : 3 ≤ j := (by omega); have h2 : 2 ≤ j := (by omega); have h1 : 1 ≤ j := (by omega); first | rw [callN_eq (fn := F_is_coercion) rfl rfl]) <;> simp [F_is_coercion, startT, run_cons, List.replicate, lim_eq, hj, h1, h2, h3, any_c, heads_c, q1, q2]
          · (intro N m hN; obtain ⟨j, rfl⟩ : ∃ j, N = j + 1 := ⟨N - 1, by omega⟩; have hj : 2 * n + 10 ≤ j := (by omega); have h3 : 3 ≤ j := (by omega); have h2 : 2 ≤ j := (by omega); have h1 : 1 ≤ j := (by omega); first | rw [callN_eq (fn := F__law_is_co) rfl rfl]) <;> simp [F__law_is_co, startT, run_cons, List.replicate, lim_eq, hj, h1, h2, h3, q1, e, k1]
        · refine mk true ?_ ?_
          · (intro N m hN; obtain ⟨j, rfl⟩ : ∃ j, N = j + 1 := ⟨N - 1, by omega⟩; have hj : 2 * n + 10 ≤ j := (by omega); have h3 : 3 ≤ j := (by omega); have h2 : 2 ≤ j := (by omega); have h1 : 1 ≤ j := (by omega); first | rw [callN_eq (fn := F_is_coercion) rfl rfl]) <;> simp [F_is_coercion, startT, run_cons, List.replicate, lim_eq, hj, h1, h2, h3, any_c, heads_c, q1, q2]
          · (intro N m hN; obtain ⟨j, rfl⟩ : ∃ j, N = j + 1 := ⟨N - 1, by omega⟩; have hj : 2 * n + 10 ≤ j := (by omega); have h3 : 3 ≤ j := (by omega); have h2 : 2 ≤ j := (by omega); have h1 : 1 ≤ j := (by omega); first | rw [callN_eq (fn := F__law_is_co) rfl rfl]) <;> simp [F__law_is_co, startT, run_cons, List.replicate, lim_eq, hj, h1, h2, h3, q1, e, k1]
    · have hh := fun N m h => hdS N m h rfl
      cases q : (one == two) <;> rw [q] at e
      · have hh : ∀ N m, 1 ≤ N → callN G N "is_head" [.tup [.str "same"], one.d, two.d] m = .ok (.val (.bl false)) m := fun N m h => by rw [hh N m h, q]; rfl
        refine mk false ?_ ?_
        · (intro N m hN; obtain ⟨j, rfl⟩ : ∃ j, N = j + 1 := ⟨N - 1, by omega⟩; have hj : 2 * n + 10 ≤ j := (by omega); have h3 : 3 ≤ j := (by omega); have h2 : 2 ≤ j := (by omega); have h1 : 1 ≤ j := (by omega); first | rw [callN_eq (fn := F_is_coercion) rfl rfl]) <;> simp [F_is_coercion, startT, run_cons, List.replicate, lim_eq, hj, h1, h2, h3, any_c, heads_c, hh]
        · (intro N m hN; obtain ⟨j, rfl⟩ : ∃ j, N = j + 1 := ⟨N - 1, by omega⟩; have hj : 2 * n + 10 ≤ j := (by omega); have h3 : 3 ≤ j := (by omega); have h2 : 2 ≤ j := (by omega); have h1 : 1 ≤ j := (by omega); first | rw [callN_eq (fn := F__law_is_co) rfl rfl]) <;> simp [F__law_is_co, startT, run_cons, List.replicate, lim_eq, hj, h1, h2, h3, e]
      · have hh : ∀ N m, 1 ≤ N → callN G N "is_head" [.tup [.str "same"], one.d, two.d] m = .ok (.val (.bl (isIB one))) m := fun N m h => by rw [hh N m h, q]; rfl
        refine mk (isIB one) ?_ ?_
        · (intro N m hN; obtain ⟨j, rfl⟩ : ∃ j, N = j + 1 := ⟨N - 1, by omega⟩; have hj : 2 * n + 10 ≤ j := (by omega); have h3 : 3 ≤ j := (by omega); have h2 : 2 ≤ j := (by omega); have h1 : 1 ≤ j := (by omega); first | rw [callN_eq (fn := F_is_coercion) rfl rfl]) <;> simp [F_is_coercion, startT, run_cons, List.replicate, lim_eq, hj, h1, h2, h3, any_c, heads_c, hh]
        · (intro N m hN; obtain ⟨j, rfl⟩ : ∃ j, N = j + 1 := ⟨N - 1, by omega⟩; have hj : 2 * n + 10 ≤ j := (by omega); have h3 : 3 ≤ j := (by omega); have h2 : 2 ≤ j := (by omega); have h1 : 1 ≤ j := (by omega); first | rw [callN_eq (fn := F__law_is_co) rfl rfl]) <;> simp [F__law_is_co, startT, run_cons, List.replicate, lim_eq, hj, h1, h2, h3, e, k2]
    · refine mk false ?_ ?_
      · (intro N m hN; obtain ⟨j, rfl⟩ : ∃ j, N = j + 1 := ⟨N - 1, by omega⟩; have hj : 2 * n + 10 ≤ j := (by omega); have h3 : 3 ≤ j := (by omega); have h2 : 2 ≤ j := (by omega); have h1 : 1 ≤ j := (by omega); first | rw [callN_eq (fn := F_is_coercion) rfl rfl]) <;> simp [F_is_coercion, startT, run_cons, List.replicate, lim_eq, hj, h1, h2, h3, any_c, heads_c]
      · (intro N m hN; obtain ⟨j, rfl⟩ : ∃ j, N = j + 1 := ⟨N - 1, by omega⟩; have hj : 2 * n + 10 ≤ j := (by omega); have h3 : 3 ≤ j := (by omega); have h2 : 2 ≤ j := (by omega); have h1 : 1 ≤ j := (by omega); first | rw [callN_eq (fn := F__law_is_co) rfl rfl]) <;> simp [F__law_is_co, startT, run_cons, List.replicate, lim_eq, hj, h1, h2, h3]
    · cases q1 : one.isAny
      · refine mk false ?_ ?_
        · (intro N m hN; obtain ⟨j, rfl⟩ : ∃ j, N = j + 1 := ⟨N - 1, by omega⟩; have hj : 2 * n + 10 ≤ j := (by omega); have h3 : 3 ≤ j := (by omega); have h2 : 2 ≤ j := (by omega); have h1 : 1 ≤ j := (by omega); first | rw [callN_eq (fn := F_is_coercion) rfl rfl]) <;> simp [F_is_coercion, startT, run_cons, List.replicate, lim_eq, hj, h1, h2, h3, any_c, heads_c, q1]
        · (intro N m hN; obtain ⟨j, rfl⟩ : ∃ j, N = j + 1 := ⟨N - 1, by omega⟩; have hj : 2 * n + 10 ≤ j := (by omega); have h3 : 3 ≤ j := (by omega); have h2 : 2 ≤ j := (by omega); have h1 : 1 ≤ j := (by omega); first | rw [callN_eq (fn := F__law_is_co) rfl rfl]) <;> simp [F__law_is_co, startT, run_cons, List.replicate, lim_eq, hj, h1, h2, h3, q1]
      · refine mk false ?_ ?_
        · (intro N m hN; obtain ⟨j, rfl⟩ : ∃ j, N = j + 1 := ⟨N - 1, by omega⟩; have hj : 2 * n + 10 ≤ j := (by omega); have h3 : 3 ≤ j := (by omega); have h2 : 2 ≤ j := (by omega); have h1 : 1 ≤ j := (by omega); first | rw [callN_eq (fn := F_is_coercion) rfl rfl]) <;> simp [F_is_coercion, startT, run_cons, List.replicate, lim_eq, hj, h1, h2, h3, any_c, heads_c, q1]
        · (intro N m hN; obtain ⟨j, rfl⟩ : ∃ j, N = j + 1 := ⟨N - 1, by omega⟩; have hj : 2 * n + 10 ≤ j := (by omega); have h3 : 3 ≤ j := (by omega); have h2 : 2 ≤ j := (by omega); have h1 : 1 ≤ j := (by omega); first | rw [callN_eq (fn := F__law_is_co) rfl rfl]) <;> simp [F__law_is_co, startT, run_cons, List.replicate, lim_eq, hj, h1, h2, h3, q1]
    · cases q1 : two.isAny
      · refine mk false ?_ ?_
        · (intro N m hN; obtain ⟨j, rfl⟩ : ∃ j, N = j + 1 := ⟨N - 1, by omega⟩; have hj : 2 * n + 10 ≤ j := (by omega); have h3 : 3 ≤ j := (by omega); have h2 : 2 ≤ j := (by omega); have h1 : 1 ≤ j := (by omega); first | rw [callN_eq (fn := F_is_coercion) rfl rfl]) <;> simp [F_is_coercion, startT, run_cons, List.replicate, lim_eq, hj, h1, h2, h3, any_c, heads_c, q1]
        · (intro N m hN; obtain ⟨j, rfl⟩ : ∃ j, N = j + 1 := ⟨N - 1, by omega⟩; have hj : 2 * n + 10 ≤ j := (by omega); have h3 : 3 ≤ j := (by omega); have h2 : 2 ≤ j := (by omega); have h1 : 1 ≤ j := (by omega); first | rw [callN_eq (fn := F__law_is_co) rfl rfl]) <;> simp [F__law_is_co, startT, run_cons, List.replicate, lim_eq, hj, h1, h2, h3, q1]
      · refine mk false ?_ ?_
        · (intro N m hN; obtain ⟨j, rfl⟩ : ∃ j, N = j + 1 := ⟨N - 1, by omega⟩; have hj : 2 * n + 10 ≤ j := (by omega); have h3 : 3 ≤ j := (by omega); have h2 : 2 ≤ j := (by omega); have h1 : 1 ≤ j := (by omega); first | rw [callN_eq (fn := F_is_coercion) rfl rfl]) <;> simp [F_is_coercion, startT, run_cons, List.replicate, lim_eq, hj, h1, h2, h3, any_c, heads_c, q1]
        · (intro N m hN; obtain ⟨j, rfl⟩ : ∃ j, N = j + 1 := ⟨N - 1, by omega⟩; have hj : 2 * n + 10 ≤ j := (by omega); have h3 : 3 ≤ j := (by omega); have h2 : 2 ≤ j := (by omega); have h1 : 1 ≤ j := (by omega); first | rw [callN_eq (fn := F__law_is_co) rfl rfl]) <;> simp [F__law_is_co, startT, run_cons, List.replicate, lim_eq, hj, h1, h2, h3, q1]
    · have hh := fun N m h => hd9 N m h (by simp) (.inl rfl)
      refine mk false ?_ ?_
      · (intro N m hN; obtain ⟨j, rfl⟩ : ∃ j, N = j + 1 := ⟨N - 1, by omega⟩; have hj : 2 * n + 10 ≤ j := (by omega); have h3 : 3 ≤ j := (by omega); have h2 : 2 ≤ j := (by omega); have h1 : 1 ≤ j := (by omega); first | rw [callN_eq (fn := F_is_coercion) rfl rfl]) <;> simp [F_is_coercion, startT, run_cons, List.replicate, lim_eq, hj, h1, h2, h3, any_c, heads_c, hh]
      · (intro N m hN; obtain ⟨j, rfl⟩ : ∃ j, N = j + 1 := ⟨N - 1, by omega⟩; have hj : 2 * n + 10 ≤ j := (by omega); have h3 : 3 ≤ j := (by omega); have h2 : 2 ≤ j := (by omega); have h1 : 1 ≤ j := (by omega); first | rw [callN_eq (fn := F__law_is_co) rfl rfl]) <;> simp [F__law_is_co, startT, run_cons, List.replicate, lim_eq, hj, h1, h2, h3]
    · have hh := fun N m h => hd9 N m h (by simp) (.inr rfl)
      refine mk false ?_ ?_
      · (intro N m hN; obtain ⟨j, rfl⟩ : ∃ j, N = j + 1 := ⟨N - 1, by omega⟩; have hj : 2 * n + 10 ≤ j := (by omega); have h3 : 3 ≤ j := (by omega); have h2 : 2 ≤ j := (by omega); have h1 : 1 ≤ j := (by omega); first | rw [callN_eq (fn := F_is_coercion) rfl rfl]) <;> simp [F_is_coercion, startT, run_cons, List.replicate, lim_eq, hj, h1, h2, h3, any_c, heads_c, hh]
      · (intro N m hN; obtain ⟨j, rfl⟩ : ∃ j, N = j + 1 := ⟨N - 1, by omega⟩; have hj : 2 * n + 10 ≤ j := (by omega); have h3 : 3 ≤ j := (by omega); have h2 : 2 ≤ j := (by omega); have h1 : 1 ≤ j := (by omega); first | rw [callN_eq (fn := F__law_is_co) rfl rfl]) <;> simp [F__law_is_co, startT, run_cons, List.replicate, lim_eq, hj, h1, h2, h3]
    · refine mk false ?_ ?_
      · (intro N m hN; obtain ⟨j, rfl⟩ : ∃ j, N = j + 1 := ⟨N - 1, by omega⟩; have hj : 2 * n + 10 ≤ j := (by omega); have h3 : 3 ≤ j := (by omega); have h2 : 2 ≤ j := (by omega); have h1 : 1 ≤ j := (by omega); first | rw [callN_eq (fn := F_is_coercion) rfl rfl]) <;> simp [F_is_coercion, startT, run_cons, List.replicate, lim_eq, hj, h1, h2, h3, any_c, heads_c, o.a1, o.a2, o.a3, o.a4, o.a5, o.a6, o.a7, o.b1, o.b2, o.b3, o.b4, o.b5, o.b6, o.b7]
      · (intro N m hN; obtain ⟨j, rfl⟩ : ∃ j, N = j + 1 := ⟨N - 1, by omega⟩; have hj : 2 * n + 10 ≤ j := (by omega); have h3 : 3 ≤ j := (by omega); have h2 : 2 ≤ j := (by omega); have h1 : 1 ≤ j := (by omega); first | rw [callN_eq (fn := F__law_is_co) rfl rfl]) <;> simp [F__law_is_co, startT, run_cons, List.replicate, lim_eq, hj, h1, h2, h3, o.a1, o.a2, o.a3, o.a4, o.a5, o.a6, o.a7, o.b1, o.b2, o.b3, o.b4, o.b5, o.b6, o.b7]
  · rcases words s with rfl | rfl | rfl | rfl | rfl | rfl | rfl | o
    · refine mk false ?_ ?_
      · (intro N m hN; obtain ⟨j, rfl⟩ : ∃ j, N = j + 1 := ⟨N - 1, by omega⟩; have hj : 2 * n + 10 ≤ j := (by omega); have h3 : 3 ≤ j := (by omega); have h2 : 2 ≤ j := (by omega); have h1 : 1 ≤ j := (by omega); first | rw [callN_eq (fn := F_is_coercion) rfl rfl]) <;> simp [F_is_coercion, startT, run_cons, List.replicate, lim_eq, hj, h1, h2, h3, any_c, heads_c]
      · (intro N m hN; obtain ⟨j, rfl⟩ : ∃ j, N = j + 1 := ⟨N - 1, by omega⟩; have hj : 2 * n + 10 ≤ j := (by omega); have h3 : 3 ≤ j := (by omega); have h2 : 2 ≤ j := (by omega); have h1 : 1 ≤ j := (by omega); first | rw [callN_eq (fn := F__law_is_co) rfl rfl]) <;> simp [F__law_is_co, startT, run_cons, List.replicate, lim_eq, hj, h1, h2, h3]
    · have hh := fun N m h => hdS N m h rfl
      have hh : ∀ N m, 1 ≤ N → callN G N "is_head" [.tup [.str "same", a], one.d, two.d] m = .ok (.val (.bl false)) m := fun N m h => by rw [hh N m h]; rfl
      refine mk false ?_ ?_
      · (intro N m hN; obtain ⟨j, rfl⟩ : ∃ j, N = j + 1 := ⟨N - 1, by omega⟩; have hj : 2 * n + 10 ≤ j := (by omega); have h3 : 3 ≤ j := (by omega); have h2 : 2 ≤ j := (by omega); have h1 : 1 ≤ j := (by omega); first | rw [callN_eq (fn := F_is_coercion) rfl rfl]) <;> simp [F_is_coercion, startT, run_cons, List.replicate, lim_eq, hj, h1, h2, h3, any_c, heads_c, hh]
      · (intro N m hN; obtain ⟨j, rfl⟩ : ∃ j, N = j + 1 := ⟨N - 1, by omega⟩; have hj : 2 * n + 10 ≤ j := (by omega); have h3 : 3 ≤ j := (by omega); have h2 : 2 ≤ j := (by omega); have h1 : 1 ≤ j := (by omega); first | rw [callN_eq (fn := F__law_is_co) rfl rfl]) <;> simp [F__law_is_co, startT, run_cons, List.replicate, lim_eq, hj, h1, h2, h3]
    · refine mk false ?_ ?_
      · (intro N m hN; obtain ⟨j, rfl⟩ : ∃ j, N = j + 1 := ⟨N - 1, by omega⟩; have hj : 2 * n + 10 ≤ j := (by omega); have h3 : 3 ≤ j := (by omega); have h2 : 2 ≤ j := (by omega); have h1 : 1 ≤ j := (by omega); first | rw [callN_eq (fn := F_is_coercion) rfl rfl]) <;> simp [F_is_coercion, startT, run_cons, List.replicate, lim_eq, hj, h1, h2, h3, any_c, heads_c]
      · (intro N m hN; obtain ⟨j, rfl⟩ : ∃ j, N = j + 1 := ⟨N - 1, by omega⟩; have hj : 2 * n + 10 ≤ j := (by omega); have h3 : 3 ≤ j := (by omega); have h2 : 2 ≤ j := (by omega); have h1 : 1 ≤ j := (by omega); first | rw [callN_eq (fn := F__law_is_co) rfl rfl]) <;> simp [F__law_is_co, startT, run_cons, List.replicate, lim_eq, hj, h1, h2, h3]
    · cases q1 : one.isAny
      · refine mk false ?_ ?_
        · (intro N m hN; obtain ⟨j, rfl⟩ : ∃ j, N = j + 1 := ⟨N - 1, by omega⟩; have hj : 2 * n + 10 ≤ j := (by omega); have h3 : 3 ≤ j := (by omega); have h2 : 2 ≤ j := (by omega); have h1 : 1 ≤ j := (by omega); first | rw [callN_eq (fn := F_is_coercion) rfl rfl]) <;> simp [F_is_coercion, startT, run_cons, List.replicate, lim_eq, hj, h1, h2, h3, any_c, heads_c, q1]
        · (intro N m hN; obtain ⟨j, rfl⟩ : ∃ j, N = j + 1 := ⟨N - 1, by omega⟩; have hj : 2 * n + 10 ≤ j := (by omega); have h3 : 3 ≤ j := (by omega); have h2 : 2 ≤ j := (by omega); have h1 : 1 ≤ j := (by omega); first | rw [callN_eq (fn := F__law_is_co) rfl rfl]) <;> simp [F__law_is_co, startT, run_cons, List.replicate, lim_eq, hj, h1, h2, h3, q1]
      · refine mk false ?_ ?_
        · (intro N m hN; obtain ⟨j, rfl⟩ : ∃ j, N = j + 1 := ⟨N - 1, by omega⟩; have hj : 2 * n + 10 ≤ j := (by omega); have h3 : 3 ≤ j := (by omega); have h2 : 2 ≤ j := (by omega); have h1 : 1 ≤ j := (by omega); first | rw [callN_eq (fn := F_is_coercion) rfl rfl]) <;> simp [F_is_coercion, startT, run_cons, List.replicate, lim_eq, hj, h1, h2, h3, any_c, heads_c, q1]
        · (intro N m hN; obtain ⟨j, rfl⟩ : ∃ j, N = j + 1 := ⟨N - 1, by omega⟩; have hj : 2 * n + 10 ≤ j := (by omega); have h3 : 3 ≤ j := (by omega); have h2 : 2 ≤ j := (by omega); have h1 : 1 ≤ j := (by omega); first | rw [callN_eq (fn := F__law_is_co) rfl rfl]) <;> simp [F__law_is_co, startT, run_cons, List.replicate, lim_eq, hj, h1, h2, h3, q1]
    · cases q1 : two.isAny
      · refine mk false ?_ ?_
        · (intro N m hN; obtain ⟨j, rfl⟩ : ∃ j, N = j + 1 := ⟨N - 1, by omega⟩; have hj : 2 * n + 10 ≤ j := (by omega); have h3 : 3 ≤ j := (by omega); have h2 : 2 ≤ j := (by omega); have h1 : 1 ≤ j := (by omega); first | rw [callN_eq (fn := F_is_coercion) rfl rfl]) <;> simp [F_is_coercion, startT, run_cons, List.replicate, lim_eq, hj, h1, h2, h3, any_c, heads_c, q1]
        · (intro N m hN; obtain ⟨j, rfl⟩ : ∃ j, N = j + 1 := ⟨N - 1, by omega⟩; have hj : 2 * n + 10 ≤ j := (by omega); have h3 : 3 ≤ j := (by omega); have h2 : 2 ≤ j := (by omega); have h1 : 1 ≤ j := (by omega); first | rw [callN_eq (fn := F__law_is_co) rfl rfl]) <;> simp [F__law_is_co, startT, run_cons, List.replicate, lim_eq, hj, h1, h2, h3, q1]
      · refine mk false ?_ ?_
        · (intro N m hN; obtain ⟨j, rfl⟩ : ∃ j, N = j + 1 := ⟨N - 1, by omega⟩; have hj : 2 * n + 10 ≤ j := (by omega); have h3 : 3 ≤ j := (by omega); have h2 : 2 ≤ j := (by omega); have h1 : 1 ≤ j := (by omega); first | rw [callN_eq (fn := F_is_coercion) rfl rfl]) <;> simp [F_is_coercion, startT, run_cons, List.replicate, lim_eq, hj, h1, h2, h3, any_c, heads_c, q1]
        · (intro N m hN; obtain ⟨j, rfl⟩ : ∃ j, N = j + 1 := ⟨N - 1, by omega⟩; have hj : 2 * n + 10 ≤ j := (by omega); have h3 : 3 ≤ j := (by omega); have h2 : 2 ≤ j := (by omega); have h1 : 1 ≤ j := (by omega); first | rw [callN_eq (fn := F__law_is_co) rfl rfl]) <;> simp [F__law_is_co, startT, run_cons, List.replicate, lim_eq, hj, h1, h2, h3, q1]
    · have hh := fun N m h => hd9 N m h (by simp) (.inl rfl)
      refine mk false ?_ ?_
      · (intro N m hN; obtain ⟨j, rfl⟩ : ∃ j, N = j + 1 := ⟨N - 1, by omega⟩; have hj : 2 * n + 10 ≤ j := (by omega); have h3 : 3 ≤ j := (by omega); have h2 : 2 ≤ j := (by omega); have h1 : 1 ≤ j := (by omega); first | rw [callN_eq (fn := F_is_coercion) rfl rfl]) <;> simp [F_is_coercion, startT, run_cons, List.replicate, lim_eq, hj, h1, h2, h3, any_c, heads_c, hh]
      · (intro N m hN; obtain ⟨j, rfl⟩ : ∃ j, N = j + 1 := ⟨N - 1, by omega⟩; have hj : 2 * n + 10 ≤ j := (by omega); have h3 : 3 ≤ j := (by omega); have h2 : 2 ≤ j := (by omega); have h1 : 1 ≤ j := (by omega); first | rw [callN_eq (fn := F__law_is_co) rfl rfl]) <;> simp [F__law_is_co, startT, run_cons, List.replicate, lim_eq, hj, h1, h2, h3]
    · have hh := fun N m h => hd9 N m h (by simp) (.inr rfl)
      refine mk false ?_ ?_
      · (intro N m hN; obtain ⟨j, rfl⟩ : ∃ j, N = j + 1 := ⟨N - 1, by omega⟩; have hj : 2 * n + 10 ≤ j := (by omega); have h3 : 3 ≤ j := (by omega); have h2 : 2 ≤ j := (by omega); have h1 : 1 ≤ j := (by omega); first | rw [callN_eq (fn := F_is_coercion) rfl rfl]) <;> simp [F_is_coercion, startT, run_cons, List.replicate, lim_eq, hj, h1, h2, h3, any_c, heads_c, hh]
      · (intro N m hN; obtain ⟨j, rfl⟩ : ∃ j, N = j + 1 := ⟨N - 1, by omega⟩; have hj : 2 * n + 10 ≤ j := (by omega); have h3 : 3 ≤ j := (by omega); have h2 : 2 ≤ j := (by omega); have h1 : 1 ≤ j := (by omega); first | rw [callN_eq (fn := F__law_is_co) rfl rfl]) <;> simp [F__law_is_co, startT, run_cons, List.replicate, lim_eq, hj, h1, h2, h3]
    · refine mk false ?_ ?_
      · (intro N m hN; obtain ⟨j, rfl⟩ : ∃ j, N = j + 1 := ⟨N - 1, by omega⟩; have hj : 2 * n + 10 ≤ j := (by omega); have h3 : 3 ≤ j := (by omega); have h2 : 2 ≤ j := (by omega); have h1 : 1 ≤ j := (by omega); first | rw [callN_eq (fn := F_is_coercion) rfl rfl]) <;> simp [F_is_coercion, startT, run_cons, List.replicate, lim_eq, hj, h1, h2, h3, any_c, heads_c, o.a1, o.a2, o.a3, o.a4, o.a5, o.a6, o.a7, o.b1, o.b2, o.b3, o.b4, o.b5, o.b6, o.b7]
      · (intro N m hN; obtain ⟨j, rfl⟩ : ∃ j, N = j + 1 := ⟨N - 1, by omega⟩; have hj : 2 * n + 10 ≤ j := (by omega); have h3 : 3 ≤ j := (by omega); have h2 : 2 ≤ j := (by omega); have h1 : 1 ≤ j := (by omega); first | rw [callN_eq (fn := F__law_is_co) rfl rfl]) <;> simp [F__law_is_co, startT, run_cons, List.replicate, lim_eq, hj, h1, h2, h3, o.a1, o.a2, o.a3, o.a4, o.a5, o.a6, o.a7, o.b1, o.b2, o.b3, o.b4, o.b5, o.b6, o.b7]
  · obtain ⟨ja, jb⟩ := jk2 ht
    rcases words s with rfl | rfl | rfl | rfl | rfl | rfl | rfl | o
    · refine mk false ?_ ?_
      · (intro N m hN; obtain ⟨j, rfl⟩ : ∃ j, N = j + 1 := ⟨N - 1, by omega⟩; have hj : 2 * n + 10 ≤ j := (by omega); have h3 : 3 ≤ j := (by omega); have h2 : 2 ≤ j := (by omega); have h1 : 1 ≤ j := (by omega); first | rw [callN_eq (fn := F_is_coercion) rfl rfl]) <;> simp [F_is_coercion, startT, run_cons, List.replicate, lim_eq, hj, h1, h2, h3, any_c, heads_c]
      · (intro N m hN; obtain ⟨j, rfl⟩ : ∃ j, N = j + 1 := ⟨N - 1, by omega⟩; have hj : 2 * n + 10 ≤ j := (by omega); have h3 : 3 ≤ j := (by omega); have h2 : 2 ≤ j := (by omega); have h1 : 1 ≤ j := (by omega); first | rw [callN_eq (fn := F__law_is_co) rfl rfl]) <;> simp [F__law_is_co, startT, run_cons, List.replicate, lim_eq, hj, h1, h2, h3]
    · have hh := fun N m h => hdS N m h rfl
      have hh : ∀ N m, 1 ≤ N → callN G N "is_head" [.tup [.str "same", a, b], one.d, two.d] m = .ok (.val (.bl false)) m := fun N m h => by rw [hh N m h]; rfl
      refine mk false ?_ ?_
      · (intro N m hN; obtain ⟨j, rfl⟩ : ∃ j, N = j + 1 := ⟨N - 1, by omega⟩; have hj : 2 * n + 10 ≤ j := (by omega); have h3 : 3 ≤ j := (by omega); have h2 : 2 ≤ j := (by omega); have h1 : 1 ≤ j := (by omega); first | rw [callN_eq (fn := F_is_coercion) rfl rfl]) <;> simp [F_is_coercion, startT, run_cons, List.replicate, lim_eq, hj, h1, h2, h3, any_c, heads_c, hh]
      · (intro N m hN; obtain ⟨j, rfl⟩ : ∃ j, N = j + 1 := ⟨N - 1, by omega⟩; have hj : 2 * n + 10 ≤ j := (by omega); have h3 : 3 ≤ j := (by omega); have h2 : 2 ≤ j := (by omega); have h1 : 1 ≤ j := (by omega); first | rw [callN_eq (fn := F__law_is_co) rfl rfl]) <;> simp [F__law_is_co, startT, run_cons, List.replicate, lim_eq, hj, h1, h2, h3]
    · have l1 := fun N m (h : 3 ≤ N) => is_label_at (N := N) (m := m) ja jb h
      have l2 := fun N m (h : 2 ≤ N) => law_owner_at (N := N) (m := m) ja jb h
      refine mk (lab a b) ?_ ?_
      · (intro N m hN; obtain ⟨j, rfl⟩ : ∃ j, N = j + 1 := ⟨N - 1, by omega⟩; have hj : 2 * n + 10 ≤ j := (by omega); have h3 : 3 ≤ j := (by omega); have h2 : 2 ≤ j := (by omega); have h1 : 1 ≤ j := (by omega); first | rw [callN_eq (fn := F_is_coercion) rfl rfl]) <;> simp [F_is_coercion, startT, run_cons, List.replicate, lim_eq, hj, h1, h2, h3, any_c, heads_c, l1]
      · (intro N m hN; obtain ⟨j, rfl⟩ : ∃ j, N = j + 1 := ⟨N - 1, by omega⟩; have hj : 2 * n + 10 ≤ j := (by omega); have h3 : 3 ≤ j := (by omega); have h2 : 2 ≤ j := (by omega); have h1 : 1 ≤ j := (by omega); first | rw [callN_eq (fn := F__law_is_co) rfl rfl]) <;> simp [F__law_is_co, startT, run_cons, List.replicate, lim_eq, hj, h1, h2, h3, l2]
    · cases q1 : one.isAny
      · refine mk false ?_ ?_
        · (intro N m hN; obtain ⟨j, rfl⟩ : ∃ j, N = j + 1 := ⟨N - 1, by omega⟩; have hj : 2 * n + 10 ≤ j := (by omega); have h3 : 3 ≤ j := (by omega); have h2 : 2 ≤ j := (by omega); have h1 : 1 ≤ j := (by omega); first | rw [callN_eq (fn := F_is_coercion) rfl rfl]) <;> simp [F_is_coercion, startT, run_cons, List.replicate, lim_eq, hj, h1, h2, h3, any_c, heads_c, q1]
        · (intro N m hN; obtain ⟨j, rfl⟩ : ∃ j, N = j + 1 := ⟨N - 1, by omega⟩; have hj : 2 * n + 10 ≤ j := (by omega); have h3 : 3 ≤ j := (by omega); have h2 : 2 ≤ j := (by omega); have h1 : 1 ≤ j := (by omega); first | rw [callN_eq (fn := F__law_is_co) rfl rfl]) <;> simp [F__law_is_co, startT, run_cons, List.replicate, lim_eq, hj, h1, h2, h3, q1]
      · refine mk false ?_ ?_
        · (intro N m hN; obtain ⟨j, rfl⟩ : ∃ j, N = j + 1 := ⟨N - 1, by omega⟩; have hj : 2 * n + 10 ≤ j := (by omega); have h3 : 3 ≤ j := (by omega); have h2 : 2 ≤ j := (by omega); have h1 : 1 ≤ j := (by omega); first | rw [callN_eq (fn := F_is_coercion) rfl rfl]) <;> simp [F_is_coercion, startT, run_cons, List.replicate, lim_eq, hj, h1, h2, h3, any_c, heads_c, q1]
        · (intro N m hN; obtain ⟨j, rfl⟩ : ∃ j, N = j + 1 := ⟨N - 1, by omega⟩; have hj : 2 * n + 10 ≤ j := (by omega); have h3 : 3 ≤ j := (by omega); have h2 : 2 ≤ j := (by omega); have h1 : 1 ≤ j := (by omega); first | rw [callN_eq (fn := F__law_is_co) rfl rfl]) <;> simp [F__law_is_co, startT, run_cons, List.replicate, lim_eq, hj, h1, h2, h3, q1]
    · cases q2 : two.isAny with
      | false =>
        refine mk false ?_ ?_
        · (intro N m hN; obtain ⟨j, rfl⟩ : ∃ j, N = j + 1 := ⟨N - 1, by omega⟩; have hj : 2 * n + 10 ≤ j := (by omega); have h3 : 3 ≤ j := (by omega); have h2 : 2 ≤ j := (by omega); have h1 : 1 ≤ j := (by omega); first | rw [callN_eq (fn := F_is_coercion) rfl rfl]) <;> simp [F_is_coercion, startT, run_cons, List.replicate, lim_eq, hj, h1, h2, h3, any_c, heads_c, q2]
        · (intro N m hN; obtain ⟨j, rfl⟩ : ∃ j, N = j + 1 := ⟨N - 1, by omega⟩; have hj : 2 * n + 10 ≤ j := (by omega); have h3 : 3 ≤ j := (by omega); have h2 : 2 ≤ j := (by omega); have h1 : 1 ≤ j := (by omega); first | rw [callN_eq (fn := F__law_is_co) rfl rfl]) <;> simp [F__law_is_co, startT, run_cons, List.replicate, lim_eq, hj, h1, h2, h3, q2]
      | true =>
        have := isAny_eq q2
        subst this
        rw [beq_any] at e
        cases q1 : one.isAny with
        | true =>
          have tg : ∀ N m, 1 ≤ N → callN G N "is_tagging" [.tup [.str "to", a, b], one.d] m = .ok (.val (.bl false)) m := by
            intro N m hN
            obtain ⟨j, rfl⟩ : ∃ j, N = j + 1 := ⟨N - 1, by omega⟩
            rw [callN_eq (fn := F_is_tagging) rfl rfl]
            simp [F_is_tagging, startT, run_cons, List.replicate, lim_eq, any_c, q1]
          rw [q1] at e
          refine mk false ?_ ?_
          · (intro N m hN; obtain ⟨j, rfl⟩ : ∃ j, N = j + 1 := ⟨N - 1, by omega⟩; have hj : 2 * n + 10 ≤ j := (by omega); have h3 : 3 ≤ j := (by omega); have h2 : 2 ≤ j := (by omega); have h1 : 1 ≤ j := (by omega); first | rw [callN_eq (fn := F_is_coercion) rfl rfl]) <;> simp [F_is_coercion, startT, run_cons, List.replicate, lim_eq, hj, h1, h2, h3, any_c, heads_c, q2, tg]
          · (intro N m hN; obtain ⟨j, rfl⟩ : ∃ j, N = j + 1 := ⟨N - 1, by omega⟩; have hj : 2 * n + 10 ≤ j := (by omega); have h3 : 3 ≤ j := (by omega); have h2 : 2 ≤ j := (by omega); have h1 : 1 ≤ j := (by omega); first | rw [callN_eq (fn := F__law_is_co) rfl rfl]) <;> simp [F__law_is_co, startT, run_cons, List.replicate, lim_eq, hj, h1, h2, h3, q2, e]
        | false =>
          rw [q1] at e
          have top := fun N m (h : 1 ≤ N) => topR_at hr (n := N) h one q1 m
          by_cases hs : ∃ x, a = .str x
          · obtain ⟨x, rfl⟩ := hs
            cases q : (x == one.head) with
            | false =>
              have tg : ∀ N m, 1 ≤ N → callN G N "is_tagging" [.tup [.str "to", .str x, b], one.d] m = .ok (.val (.bl false)) m := by
                intro N m hN
                obtain ⟨j, rfl⟩ : ∃ j, N = j + 1 := ⟨N - 1, by omega⟩
                rw [callN_eq (fn := F_is_tagging) rfl rfl]
                simp [F_is_tagging, startT, run_cons, List.replicate, lim_eq, any_c, q1, q, -beq_iff_eq, -beq_eq_false_iff_ne]
              refine mk false ?_ ?_
              · (intro N m hN; obtain ⟨j, rfl⟩ : ∃ j, N = j + 1 := ⟨N - 1, by omega⟩; have hj : 2 * n + 10 ≤ j := (by omega); have h3 : 3 ≤ j := (by omega); have h2 : 2 ≤ j := (by omega); have h1 : 1 ≤ j := (by omega); first | rw [callN_eq (fn := F_is_coercion) rfl rfl]) <;> simp [F_is_coercion, startT, run_cons, List.replicate, lim_eq, hj, h1, h2, h3, any_c, heads_c, q2, tg]
              · (intro N m hN; obtain ⟨j, rfl⟩ : ∃ j, N = j + 1 := ⟨N - 1, by omega⟩; have hj : 2 * n + 10 ≤ j := (by omega); have h3 : 3 ≤ j := (by omega); have h2 : 2 ≤ j := (by omega); have h1 : 1 ≤ j := (by omega); first | rw [callN_eq (fn := F__law_is_co) rfl rfl]) <;> simp [F__law_is_co, startT, run_cons, List.replicate, lim_eq, hj, h1, h2, h3, q2, e, q, -beq_iff_eq, -beq_eq_false_iff_ne]
            | true =>
              obtain ⟨bb, e1, e2, e3⟩ := ih b jb one one.gr d1 (by have := gr_dep one; omega)
              cases bb with
              | false =>
                have tg : ∀ N m, 2 * n + 10 ≤ N → callN G N "is_tagging" [.tup [.str "to", .str x, b], one.d] m = .ok (.val (.bl false)) m := by
                  intro N m hN
                  obtain ⟨j, rfl⟩ : ∃ j, N = j + 1 := ⟨N - 1, by omega⟩
                  have hj : 2 * n + 9 ≤ j := by omega
                  have gr := ground_c (N := j) (by omega) one q1 m
                  rw [callN_eq (fn := F_is_tagging) rfl rfl]
                  simp [F_is_tagging, startT, run_cons, List.replicate, lim_eq, any_c, q1, q, -beq_iff_eq, -beq_eq_false_iff_ne, gr, e1, hj]
                refine mk false ?_ ?_
                · (intro N m hN; obtain ⟨j, rfl⟩ : ∃ j, N = j + 1 := ⟨N - 1, by omega⟩; have hj : 2 * n + 10 ≤ j := (by omega); have h3 : 3 ≤ j := (by omega); have h2 : 2 ≤ j := (by omega); have h1 : 1 ≤ j := (by omega); first | rw [callN_eq (fn := F_is_coercion) rfl rfl]) <;> simp [F_is_coercion, startT, run_cons, List.replicate, lim_eq, hj, h1, h2, h3, any_c, heads_c, q2, tg]
                · (intro N m hN; obtain ⟨j, rfl⟩ : ∃ j, N = j + 1 := ⟨N - 1, by omega⟩; have hj : 2 * n + 10 ≤ j := (by omega); have h3 : 3 ≤ j := (by omega); have h2 : 2 ≤ j := (by omega); have h1 : 1 ≤ j := (by omega); first | rw [callN_eq (fn := F__law_is_co) rfl rfl]) <;> simp [F__law_is_co, startT, run_cons, List.replicate, lim_eq, hj, h1, h2, h3, q2, e, q, top, e2, -beq_iff_eq, -beq_eq_false_iff_ne, (show 2 * n + 9 ≤ j by omega)]
              | true =>
                obtain ⟨s', t', rfl⟩ := e3 rfl
                have hl' := jk_len jb
                have tg : ∀ N m, 2 * n + 10 ≤ N → callN G N "is_tagging" [.tup [.str "to", .str x, .tup (.str s' :: t')], one.d] m = .ok (.val (.bl (isHd s'))) m := by
                  intro N m hN
                  obtain ⟨j, rfl⟩ : ∃ j, N = j + 1 := ⟨N - 1, by omega⟩
                  have hj : 2 * n + 9 ≤ j := by omega
                  have gr := ground_c (N := j) (by omega) one q1 m
                  rw [callN_eq (fn := F_is_tagging) rfl rfl]
                  simp [F_is_tagging, startT, run_cons, List.replicate, lim_eq, any_c, heads_c, q1, q, -beq_iff_eq, -beq_eq_false_iff_ne, gr, e1, hj, hl', isHd]
                refine mk (isHd s') ?_ ?_
                · (intro N m hN; obtain ⟨j, rfl⟩ : ∃ j, N = j + 1 := ⟨N - 1, by omega⟩; have hj : 2 * n + 10 ≤ j := (by omega); have h3 : 3 ≤ j := (by omega); have h2 : 2 ≤ j := (by omega); have h1 : 1 ≤ j := (by omega); first | rw [callN_eq (fn := F_is_coercion) rfl rfl]) <;> simp [F_is_coercion, startT, run_cons, List.replicate, lim_eq, hj, h1, h2, h3, any_c, heads_c, q2, tg]
                · (intro N m hN; obtain ⟨j, rfl⟩ : ∃ j, N = j + 1 := ⟨N - 1, by omega⟩; have hj : 2 * n + 10 ≤ j := (by omega); have h3 : 3 ≤ j := (by omega); have h2 : 2 ≤ j := (by omega); have h1 : 1 ≤ j := (by omega); first | rw [callN_eq (fn := F__law_is_co) rfl rfl]) <;> simp [F__law_is_co, startT, run_cons, List.replicate, lim_eq, hj, h1, h2, h3, q2, e, q, top, e2, hl', isHd, -beq_iff_eq, -beq_eq_false_iff_ne, (show 2 * n + 9 ≤ j by omega)]
          · have hs' := fun x e => hs ⟨x, e⟩
            have hi := not_str ja hs'
            have hv := eqD_jk ja one.head
            rw [eqv_nostr ja hs'] at hv
            have tg : ∀ N m, 1 ≤ N → callN G N "is_tagging" [.tup [.str "to", a, b], one.d] m = .ok (.val (.bl false)) m := by
              intro N m hN
              obtain ⟨j, rfl⟩ : ∃ j, N = j + 1 := ⟨N - 1, by omega⟩
              rw [callN_eq (fn := F_is_tagging) rfl rfl]
              simp [F_is_tagging, startT, run_cons, List.replicate, lim_eq, any_c, q1, hi]
            refine mk false ?_ ?_
            · (intro N m hN; obtain ⟨j, rfl⟩ : ∃ j, N = j + 1 := ⟨N - 1, by omega⟩; have hj : 2 * n + 10 ≤ j := (by omega); have h3 : 3 ≤ j := (by omega); have h2 : 2 ≤ j := (by omega); have h1 : 1 ≤ j := (by omega); first | rw [callN_eq (fn := F_is_coercion) rfl rfl]) <;> simp [F_is_coercion, startT, run_cons, List.replicate, lim_eq, hj, h1, h2, h3, any_c, heads_c, q2, tg]
            · (intro N m hN; obtain ⟨j, rfl⟩ : ∃ j, N = j + 1 := ⟨N - 1, by omega⟩; have hj : 2 * n + 10 ≤ j := (by omega); have h3 : 3 ≤ j := (by omega); have h2 : 2 ≤ j := (by omega); have h1 : 1 ≤ j := (by omega); first | rw [callN_eq (fn := F__law_is_co) rfl rfl]) <;> simp [F__law_is_co, startT, run_cons, List.replicate, lim_eq, hj, h1, h2, h3, q2, e, hv]
    · cases u1 : (one.head == "fun") with
      | false =>
        have hh : ∀ N m, 1 ≤ N → callN G N "is_head" [.tup [.str "fun", a, b], one.d, two.d] m = .ok (.val (.bl false)) m := by
          intro N m hN
          obtain ⟨j, rfl⟩ : ∃ j, N = j + 1 := ⟨N - 1, by omega⟩
          rw [callN_eq (fn := F_is_head) rfl rfl]
          simp [F_is_head, startT, run_cons, List.replicate, lim_eq, u1, -beq_iff_eq, -beq_eq_false_iff_ne]
        refine mk false ?_ ?_
        · (intro N m hN; obtain ⟨j, rfl⟩ : ∃ j, N = j + 1 := ⟨N - 1, by omega⟩; have hj : 2 * n + 10 ≤ j := (by omega); have h3 : 3 ≤ j := (by omega); have h2 : 2 ≤ j := (by omega); have h1 : 1 ≤ j := (by omega); first | rw [callN_eq (fn := F_is_coercion) rfl rfl]) <;> simp [F_is_coercion, startT, run_cons, List.replicate, lim_eq, hj, h1, h2, h3, any_c, heads_c, hh]
        · (intro N m hN; obtain ⟨j, rfl⟩ : ∃ j, N = j + 1 := ⟨N - 1, by omega⟩; have hj : 2 * n + 10 ≤ j := (by omega); have h3 : 3 ≤ j := (by omega); have h2 : 2 ≤ j := (by omega); have h1 : 1 ≤ j := (by omega); first | rw [callN_eq (fn := F__law_is_co) rfl rfl]) <;> simp [F__law_is_co, startT, run_cons, List.replicate, lim_eq, hj, h1, h2, h3, u1, -beq_iff_eq, -beq_eq_false_iff_ne]
      | true =>
        cases u2 : (two.head == "fun") with
        | false =>
          have hh : ∀ N m, 1 ≤ N → callN G N "is_head" [.tup [.str "fun", a, b], one.d, two.d] m = .ok (.val (.bl false)) m := by
            intro N m hN
            obtain ⟨j, rfl⟩ : ∃ j, N = j + 1 := ⟨N - 1, by omega⟩
            rw [callN_eq (fn := F_is_head) rfl rfl]
            simp [F_is_head, startT, run_cons, List.replicate, lim_eq, u1, u2, -beq_iff_eq, -beq_eq_false_iff_ne]
          refine mk false ?_ ?_
          · (intro N m hN; obtain ⟨j, rfl⟩ : ∃ j, N = j + 1 := ⟨N - 1, by omega⟩; have hj : 2 * n + 10 ≤ j := (by omega); have h3 : 3 ≤ j := (by omega); have h2 : 2 ≤ j := (by omega); have h1 : 1 ≤ j := (by omega); first | rw [callN_eq (fn := F_is_coercion) rfl rfl]) <;> simp [F_is_coercion, startT, run_cons, List.replicate, lim_eq, hj, h1, h2, h3, any_c, heads_c, hh]
          · (intro N m hN; obtain ⟨j, rfl⟩ : ∃ j, N = j + 1 := ⟨N - 1, by omega⟩; have hj : 2 * n + 10 ≤ j := (by omega); have h3 : 3 ≤ j := (by omega); have h2 : 2 ≤ j := (by omega); have h1 : 1 ≤ j := (by omega); first | rw [callN_eq (fn := F__law_is_co) rfl rfl]) <;> simp [F__law_is_co, startT, run_cons, List.replicate, lim_eq, hj, h1, h2, h3, u1, u2, -beq_iff_eq, -beq_eq_false_iff_ne]
        | true =>
          obtain ⟨o1, o2, rfl⟩ : ∃ o1 o2, one = .fn o1 o2 := by cases one <;> first | exact ⟨_, _, rfl⟩ | simp [Kd.head] at u1
          obtain ⟨t1, t2, rfl⟩ : ∃ t1 t2, two = .fn t1 t2 := by cases two <;> first | exact ⟨_, _, rfl⟩ | simp [Kd.head] at u2
          simp only [Kd.dep] at d1 d2
          obtain ⟨b1, e1, e2, _⟩ := ih a ja t1 o1 (by omega) (by omega)
          obtain ⟨b2, e3, e4, _⟩ := ih b jb o2 t2 (by omega) (by omega)
          have hh : ∀ N m, 2 * n + 10 ≤ N → callN G N "is_head" [.tup [.str "fun", a, b], (Kd.fn o1 o2).d, (Kd.fn t1 t2).d] m = .ok (.val (.bl (b1 && b2))) m := by
            intro N m hN
            obtain ⟨j, rfl⟩ : ∃ j, N = j + 1 := ⟨N - 1, by omega⟩
            have hj : 2 * n + 9 ≤ j := by omega
            rw [callN_eq (fn := F_is_head) rfl rfl]
            cases b1 <;> simp [F_is_head, startT, run_cons, List.replicate, lim_eq, Kd.head, e1, e3, hj]
          cases b1 with
          | false =>
            refine mk false ?_ ?_
            · (intro N m hN; obtain ⟨j, rfl⟩ : ∃ j, N = j + 1 := ⟨N - 1, by omega⟩; have hj : 2 * n + 10 ≤ j := (by omega); have h3 : 3 ≤ j := (by omega); have h2 : 2 ≤ j := (by omega); have h1 : 1 ≤ j := (by omega); first | rw [callN_eq (fn := F_is_coercion) rfl rfl]) <;> simp [F_is_coercion, startT, run_cons, List.replicate, lim_eq, hj, h1, h2, h3, any_c, heads_c, hh]
            · (intro N m hN; obtain ⟨j, rfl⟩ : ∃ j, N = j + 1 := ⟨N - 1, by omega⟩; have hj : 2 * n + 10 ≤ j := (by omega); have h3 : 3 ≤ j := (by omega); have h2 : 2 ≤ j := (by omega); have h1 : 1 ≤ j := (by omega); first | rw [callN_eq (fn := F__law_is_co) rfl rfl]) <;> simp [F__law_is_co, startT, run_cons, List.replicate, lim_eq, hj, h1, h2, h3, Kd.head, e2, e4, (show 2 * n + 9 ≤ j by omega)]
          | true =>
            refine mk b2 ?_ ?_
            · (intro N m hN; obtain ⟨j, rfl⟩ : ∃ j, N = j + 1 := ⟨N - 1, by omega⟩; have hj : 2 * n + 10 ≤ j := (by omega); have h3 : 3 ≤ j := (by omega); have h2 : 2 ≤ j := (by omega); have h1 : 1 ≤ j := (by omega); first | rw [callN_eq (fn := F_is_coercion) rfl rfl]) <;> simp [F_is_coercion, startT, run_cons, List.replicate, lim_eq, hj, h1, h2, h3, any_c, heads_c, hh]
            · (intro N m hN; obtain ⟨j, rfl⟩ : ∃ j, N = j + 1 := ⟨N - 1, by omega⟩; have hj : 2 * n + 10 ≤ j := (by omega); have h3 : 3 ≤ j := (by omega); have h2 : 2 ≤ j := (by omega); have h1 : 1 ≤ j := (by omega); first | rw [callN_eq (fn := F__law_is_co) rfl rfl]) <;> simp [F__law_is_co, startT, run_cons, List.replicate, lim_eq, hj, h1, h2, h3, Kd.head, e2, e4, (show 2 * n + 9 ≤ j by omega)]
    · cases u1 : (one.head == "pair") with
      | false =>
        have hh : ∀ N m, 1 ≤ N → callN G N "is_head" [.tup [.str "pair", a, b], one.d, two.d] m = .ok (.val (.bl false)) m := by
          intro N m hN
          obtain ⟨j, rfl⟩ : ∃ j, N = j + 1 := ⟨N - 1, by omega⟩
          rw [callN_eq (fn := F_is_head) rfl rfl]
          simp [F_is_head, startT, run_cons, List.replicate, lim_eq, u1, -beq_iff_eq, -beq_eq_false_iff_ne]
        refine mk false ?_ ?_
        · (intro N m hN; obtain ⟨j, rfl⟩ : ∃ j, N = j + 1 := ⟨N - 1, by omega⟩; have hj : 2 * n + 10 ≤ j := (by omega); have h3 : 3 ≤ j := (by omega); have h2 : 2 ≤ j := (by omega); have h1 : 1 ≤ j := (by omega); first | rw [callN_eq (fn := F_is_coercion) rfl rfl]) <;> simp [F_is_coercion, startT, run_cons, List.replicate, lim_eq, hj, h1, h2, h3, any_c, heads_c, hh]
        · (intro N m hN; obtain ⟨j, rfl⟩ : ∃ j, N = j + 1 := ⟨N - 1, by omega⟩; have hj : 2 * n + 10 ≤ j := (by omega); have h3 : 3 ≤ j := (by omega); have h2 : 2 ≤ j := (by omega); have h1 : 1 ≤ j := (by omega); first | rw [callN_eq (fn := F__law_is_co) rfl rfl]) <;> simp [F__law_is_co, startT, run_cons, List.replicate, lim_eq, hj, h1, h2, h3, u1, -beq_iff_eq, -beq_eq_false_iff_ne]
      | true =>
        cases u2 : (two.head == "pair") with
        | false =>
          have hh : ∀ N m, 1 ≤ N → callN G N "is_head" [.tup [.str "pair", a, b], one.d, two.d] m = .ok (.val (.bl false)) m := by
            intro N m hN
            obtain ⟨j, rfl⟩ : ∃ j, N = j + 1 := ⟨N - 1, by omega⟩
            rw [callN_eq (fn := F_is_head) rfl rfl]
            simp [F_is_head, startT, run_cons, List.replicate, lim_eq, u1, u2, -beq_iff_eq, -beq_eq_false_iff_ne]
          refine mk false ?_ ?_
          · (intro N m hN; obtain ⟨j, rfl⟩ : ∃ j, N = j + 1 := ⟨N - 1, by omega⟩; have hj : 2 * n + 10 ≤ j := (by omega); have h3 : 3 ≤ j := (by omega); have h2 : 2 ≤ j := (by omega); have h1 : 1 ≤ j := (by omega); first | rw [callN_eq (fn := F_is_coercion) rfl rfl]) <;> simp [F_is_coercion, startT, run_cons, List.replicate, lim_eq, hj, h1, h2, h3, any_c, heads_c, hh]
          · (intro N m hN; obtain ⟨j, rfl⟩ : ∃ j, N = j + 1 := ⟨N - 1, by omega⟩; have hj : 2 * n + 10 ≤ j := (by omega); have h3 : 3 ≤ j := (by omega); have h2 : 2 ≤ j := (by omega); have h1 : 1 ≤ j := (by omega); first | rw [callN_eq (fn := F__law_is_co) rfl rfl]) <;> simp [F__law_is_co, startT, run_cons, List.replicate, lim_eq, hj, h1, h2, h3, u1, u2, -beq_iff_eq, -beq_eq_false_iff_ne]
        | true =>
          obtain ⟨o1, o2, rfl⟩ : ∃ o1 o2, one = .pr o1 o2 := by cases one <;> first | exact ⟨_, _, rfl⟩ | simp [Kd.head] at u1
          obtain ⟨t1, t2, rfl⟩ : ∃ t1 t2, two = .pr t1 t2 := by cases two <;> first | exact ⟨_, _, rfl⟩ | simp [Kd.head] at u2
          simp only [Kd.dep] at d1 d2
          obtain ⟨b1, e1, e2, _⟩ := ih a ja o1 t1 (by omega) (by omega)
          obtain ⟨b2, e3, e4, _⟩ := ih b jb o2 t2 (by omega) (by omega)
          have hh : ∀ N m, 2 * n + 10 ≤ N → callN G N "is_head" [.tup [.str "pair", a, b], (Kd.pr o1 o2).d, (Kd.pr t1 t2).d] m = .ok (.val (.bl (b1 && b2))) m := by
            intro N m hN
            obtain ⟨j, rfl⟩ : ∃ j, N = j + 1 := ⟨N - 1, by omega⟩
            have hj : 2 * n + 9 ≤ j := by omega
            rw [callN_eq (fn := F_is_head) rfl rfl]
            cases b1 <;> simp [F_is_head, startT, run_cons, List.replicate, lim_eq, Kd.head, e1, e3, hj]
          cases b1 with
          | false =>
            refine mk false ?_ ?_
            · (intro N m hN; obtain ⟨j, rfl⟩ : ∃ j, N = j + 1 := ⟨N - 1, by omega⟩; have hj : 2 * n + 10 ≤ j := (by omega); have h3 : 3 ≤ j := (by omega); have h2 : 2 ≤ j := (by omega); have h1 : 1 ≤ j := (by omega); first | rw [callN_eq (fn := F_is_coercion) rfl rfl]) <;> simp [F_is_coercion, startT, run_cons, List.replicate, lim_eq, hj, h1, h2, h3, any_c, heads_c, hh]
            · (intro N m hN; obtain ⟨j, rfl⟩ : ∃ j, N = j + 1 := ⟨N - 1, by omega⟩; have hj : 2 * n + 10 ≤ j := (by omega); have h3 : 3 ≤ j := (by omega); have h2 : 2 ≤ j := (by omega); have h1 : 1 ≤ j := (by omega); first | rw [callN_eq (fn := F__law_is_co) rfl rfl]) <;> simp [F__law_is_co, startT, run_cons, List.replicate, lim_eq, hj, h1, h2, h3, Kd.head, e2, e4, (show 2 * n + 9 ≤ j by omega)]
          | true =>
            refine mk b2 ?_ ?_
            · (intro N m hN; obtain ⟨j, rfl⟩ : ∃ j, N = j + 1 := ⟨N - 1, by omega⟩; have hj : 2 * n + 10 ≤ j := (by omega); have h3 : 3 ≤ j := (by omega); have h2 : 2 ≤ j := (by omega); have h1 : 1 ≤ j := (by omega); first | rw [callN_eq (fn := F_is_coercion) rfl rfl]) <;> simp [F_is_coercion, startT, run_cons, List.replicate, lim_eq, hj, h1, h2, h3, any_c, heads_c, hh]
            · (intro N m hN; obtain ⟨j, rfl⟩ : ∃ j, N = j + 1 := ⟨N - 1, by omega⟩; have hj : 2 * n + 10 ≤ j := (by omega); have h3 : 3 ≤ j := (by omega); have h2 : 2 ≤ j := (by omega); have h1 : 1 ≤ j := (by omega); first | rw [callN_eq (fn := F__law_is_co) rfl rfl]) <;> simp [F__law_is_co, startT, run_cons, List.replicate, lim_eq, hj, h1, h2, h3, Kd.head, e2, e4, (show 2 * n + 9 ≤ j by omega)]
    · refine mk false ?_ ?_
      · (intro N m hN; obtain ⟨j, rfl⟩ : ∃ j, N = j + 1 := ⟨N - 1, by omega⟩; have hj : 2 * n + 10 ≤ j := (by omega); have h3 : 3 ≤ j := (by omega); have h2 : 2 ≤ j := (by omega); have h1 : 1 ≤ j := (by omega); first | rw [callN_eq (fn := F_is_coercion) rfl rfl]) <;> simp [F_is_coercion, startT, run_cons, List.replicate, lim_eq, hj, h1, h2, h3, any_c, heads_c, o.a1, o.a2, o.a3, o.a4, o.a5, o.a6, o.a7, o.b1, o.b2, o.b3, o.b4, o.b5, o.b6, o.b7]
      · (intro N m hN; obtain ⟨j, rfl⟩ : ∃ j, N = j + 1 := ⟨N - 1, by omega⟩; have hj : 2 * n + 10 ≤ j := (by omega); have h3 : 3 ≤ j := (by omega); have h2 : 2 ≤ j := (by omega); have h1 : 1 ≤ j := (by omega); first | rw [callN_eq (fn := F__law_is_co) rfl rfl]) <;> simp [F__law_is_co, startT, run_cons, List.replicate, lim_eq, hj, h1, h2, h3, o.a1, o.a2, o.a3, o.a4, o.a5, o.a6, o.a7, o.b1, o.b2, o.b3, o.b4, o.b5, o.b6, o.b7]
theorem co_at {S : List String} : ∀ (n : Nat) (d : D), jk S n d = true → ∀ one two : Kd, one.dep < 90 → two.dep < 90 → Both "is_coercion" "_law_is_co" (2 * n + 9) [d, one.d, two.d] d := by
  intro n
  induction n with
  | zero =>
    intro d h one two d1 d2
    exact co_ff h (.inl fun xs e => by rw [e] at h; simp [jk] at h) one two 0
  | succ n ih =>
    intro d h one two d1 d2
    by_cases hd : ∃ xs, d = .tup xs
    · obtain ⟨xs, rfl⟩ := hd
      have h0 := h
      rw [jk_tup, Bool.and_eq_true, decide_eq_true_eq] at h
      obtain ⟨hl, hx⟩ := h
      cases xs with
      | nil => exact co_ff h0 (.inr (.inl rfl)) one two (2 * (n + 1))
      | cons w t =>
        rw [jks_cons, Bool.and_eq_true] at hx
        obtain ⟨hw, ht⟩ := hx
        simp only [List.length_cons] at hl
        by_cases hs : ∃ s, w = .str s
        · obtain ⟨s, rfl⟩ := hs
          exact co_str ih (by omega) ht one two d1 d2
        · exact co_ff h0 (.inr (.inr ⟨w, t, rfl, by omega, not_str hw fun s e => hs ⟨s, e⟩⟩)) one two (2 * (n + 1))
    · exact co_ff h (.inl fun xs e => hd ⟨xs, e⟩) one two (2 * (n + 1))
end P3.K91
set_option Elab.async false
set_option linter.all false
set_option maxRecDepth 100000
set_option maxHeartbeats 0
/-! S91: k91: live labels -/
namespace P3.K91
open PySem L2
theorem partsA_at {n : Nat} (hn : 1 ≤ n) (c : Co) (m : Mem) : callN G n "parts_of_coercions" [c.d] m = .ok (.own (.lst (c.subs.map Co.d))) m := by
  obtain ⟨j, rfl⟩ : ∃ j, n = j + 1 := ⟨n - 1, by omega⟩
  rw [callN_eq (fn := F_parts_of_coercions) rfl rfl]
  have s1 : ∀ a b, slcEv (Co.fn a b).d (some 1) none = some (.val (.tup [a.d, b.d])) := fun _ _ => rfl
  have s2 : ∀ a b, slcEv (Co.pr a b).d (some 1) none = some (.val (.tup [a.d, b.d])) := fun _ _ => rfl
  have s3 : ∀ t c, idxEv (Co.to t c).d (.int (-1)) = some c.d := fun _ _ => rfl
  have s4 : ∀ l s t c, idxEv (Co.frm l s t c).d (.int (-1)) = some c.d := fun _ _ _ _ => rfl
  cases c <;> simp [F_parts_of_coercions, startT, run_cons, List.replicate, lim_eq, Co.subs, s1, s2, s3, s4]
theorem liveA_at {S : List Int} (hS : RngS S) (hl : S.length ≤ 12) : ∀ {c : Co}, c.labS S → c.ht < 200 → ∀ {n : Nat}, c.ht + 2 ≤ n → ∀ m, callN G n "live_labels" [c.d] m = .ok (.val (.tup (c.live.map pairD))) m := by
  intro c
  have e13 : ∀ l s t c, slcEv (Co.frm l s t c).d (some 1) (some 3) = some (.val (pairD (l, s))) := fun _ _ _ _ => rfl
  have e13f : ∀ l s, slcEv (Co.fail l s).d (some 1) (some 3) = some (.val (pairD (l, s))) := fun _ _ => rfl
  have s0 : ssetEv (.fl []) = some (.own (.lst [])) := rfl
  induction c with
  | stay =>
    intro h h1 n hn m
    obtain ⟨j, rfl⟩ : ∃ j, n = j + 1 := ⟨n - 1, by omega⟩
    have hp := partsA_at (n := j) (by omega) .stay m
    rw [callN_eq (fn := F_live_labels) rfl rfl]
    simp [F_live_labels, startT, run_cons, List.replicate, lim_eq, hp, Co.subs, Co.live, s0]
  | same =>
    intro h h1 n hn m
    obtain ⟨j, rfl⟩ : ∃ j, n = j + 1 := ⟨n - 1, by omega⟩
    have hp := partsA_at (n := j) (by omega) .same m
    rw [callN_eq (fn := F_live_labels) rfl rfl]
    simp [F_live_labels, startT, run_cons, List.replicate, lim_eq, hp, Co.subs, Co.live, s0]
  | fail k s =>
    intro h h1 n hn m
    obtain ⟨j, rfl⟩ : ∃ j, n = j + 1 := ⟨n - 1, by omega⟩
    have hp := partsA_at (n := j) (by omega) (.fail k s) m
    have hs := sset_map (ps := [(k, s)]) ((live_in (c := .fail k s) hS h).1.rng hS) (by simp)
    have e : sortP [(k, s)] = [(k, s)] := rfl
    rw [e] at hs
    simp only [List.map_cons, List.map_nil] at hs
    rw [callN_eq (fn := F_live_labels) rfl rfl]
    simp [F_live_labels, startT, run_cons, List.replicate, lim_eq, hp, Co.subs, Co.live, e13f, hs]
  | frm k s t c ih =>
    intro h h1 n hn m
    simp only [Co.ht] at hn h1
    obtain ⟨j, rfl⟩ : ∃ j, n = j + 1 := ⟨n - 1, by omega⟩
    have hp := partsA_at (n := j) (by omega) (.frm k s t c) m
    obtain ⟨i1, i2⟩ := live_in hS h.2
    have r1 : InS S ((k, s) :: c.live) := fun p hp => by
      rcases List.mem_cons.mp hp with rfl | hp
      · exact h.1
      · exact i1 p hp
    have hs := sset_map (ps := (k, s) :: c.live) (r1.rng hS) (by simp only [List.length_cons]; omega)
    simp only [List.map_cons] at hs
    have hi := ih h.2 (by omega) (n := j) (by omega) m
    have hle : c.live.length + 1 ≤ 1000000 := by omega
    have hle2 : 1 + c.live.length ≤ 1000000 := by omega
    rw [callN_eq (fn := F_live_labels) rfl rfl]
    simp [F_live_labels, startT, run_cons, List.replicate, lim_eq, hp, Co.subs, Co.live, e13, hs, hi, for_cons, hle, hle2]
  | to t c ih =>
    intro h h1 n hn m
    simp only [Co.ht] at hn h1
    obtain ⟨j, rfl⟩ : ∃ j, n = j + 1 := ⟨n - 1, by omega⟩
    have hp := partsA_at (n := j) (by omega) (.to t c) m
    obtain ⟨i1, i2⟩ := live_in (c := c) hS h
    have hs := sset_map (ps := c.live) (i1.rng hS) (by omega)
    have hi := ih h (by omega) (n := j) (by omega) m
    have hle : c.live.length ≤ 1000000 := by omega
    rw [callN_eq (fn := F_live_labels) rfl rfl]
    simp [F_live_labels, startT, run_cons, List.replicate, lim_eq, hp, Co.subs, Co.live, hs, hi, for_cons, hle]
  | fn a b iha ihb =>
    intro h h1 n hn m
    simp only [Co.ht] at hn h1
    obtain ⟨j, rfl⟩ : ∃ j, n = j + 1 := ⟨n - 1, by omega⟩
    have hp := partsA_at (n := j) (by omega) (.fn a b) m
    have hq := passP_at (G := G) (show G.fns.lookup "passes" = some P3.F_passes from rfl) (n := j) (by omega) a m
    obtain ⟨i1, i2⟩ := live_in hS h.1
    obtain ⟨i3, i4⟩ := live_in hS h.2
    have hi := iha h.1 (by omega) (n := j) (by omega) m
    have hj := ihb h.2 (by omega) (n := j) (by omega) m
    have hle : a.live.length ≤ 1000000 := by omega
    have ea := eqD_co a a (by omega)
    have eb := eqD_co b a (by omega)
    rw [callN_eq (fn := F_live_labels) rfl rfl]
    by_cases c1 : b = a ∨ a.pass = true
    · have hs := sset_map (ps := a.live ++ b.live) ((i1.append i3).rng hS) (by rw [List.length_append]; omega)
      rw [List.map_append] at hs
      have hle2 : a.live.length + b.live.length ≤ 1000000 := by omega
      by_cases c2 : b = a
      · subst c2
        simp [F_live_labels, startT, run_cons, List.replicate, lim_eq, hp, Co.subs, Co.live, hs, hi, for_cons, hle, hle2, ea, hq]
      · have c3 : a.pass = true := c1.resolve_left c2
        rw [c3] at hq
        simp [F_live_labels, startT, run_cons, List.replicate, lim_eq, hp, Co.subs, Co.live, hs, hi, hj, for_cons, hle, hle2, ea, eb, c2, c3, hq]
    · have c2 : ¬ b = a := fun z => c1 (.inl z)
      have c3 : a.pass = false := by
        cases h : a.pass with
        | false => rfl
        | true => exact absurd (.inr h) c1
      rw [c3] at hq
      have hs := sset_map (ps := a.live) (i1.rng hS) (by omega)
      simp [F_live_labels, startT, run_cons, List.replicate, lim_eq, hp, Co.subs, Co.live, hs, hi, hj, for_cons, hle, ea, eb, c2, c3, hq]
  | pr a b iha ihb =>
    intro h h1 n hn m
    simp only [Co.ht] at hn h1
    obtain ⟨j, rfl⟩ : ∃ j, n = j + 1 := ⟨n - 1, by omega⟩
    have hp := partsA_at (n := j) (by omega) (.pr a b) m
    obtain ⟨i1, i2⟩ := live_in hS h.1
    obtain ⟨i3, i4⟩ := live_in hS h.2
    have hs := sset_map (ps := a.live ++ b.live) ((i1.append i3).rng hS) (by rw [List.length_append]; omega)
    rw [List.map_append] at hs
    have hi := iha h.1 (by omega) (n := j) (by omega) m
    have hj := ihb h.2 (by omega) (n := j) (by omega) m
    have hle : a.live.length ≤ 1000000 := by omega
    have hle2 : a.live.length + b.live.length ≤ 1000000 := by omega
    rw [callN_eq (fn := F_live_labels) rfl rfl]
    simp [F_live_labels, startT, run_cons, List.replicate, lim_eq, hp, Co.subs, Co.live, hs, hi, hj, for_cons, hle, hle2]
/-! ### owners -/
def dd : Option (Int × Int) → List (Int × Int) → List (Int × Int)
  | _, [] => []
  | l, p :: r => if l = some p then dd l r else p :: dd (some p) r
theorem dd_mem : ∀ (xs : List (Int × Int)) (l : Option (Int × Int)) (p : Int × Int), (p ∈ dd l xs → p ∈ xs) ∧ (p ∈ xs → p ∈ dd l xs ∨ l = some p)
  | [], l, p => ⟨fun h => (by cases h), fun h => (by cases h)⟩
  | q :: r, l, p => by
    unfold dd
    by_cases c : l = some q
    · rw [if_pos c]
      obtain ⟨h1, h2⟩ := dd_mem r l p
      refine ⟨fun h => List.mem_cons_of_mem _ (h1 h), fun h => ?_⟩
      rcases List.mem_cons.mp h with rfl | h
      · exact .inr c
      · exact h2 h
    · rw [if_neg c]
      obtain ⟨h1, h2⟩ := dd_mem r (some q) p
      refine ⟨fun h => ?_, fun h => .inl ?_⟩
      · rcases List.mem_cons.mp h with rfl | h
        · exact List.mem_cons_self
        · exact List.mem_cons_of_mem _ (h1 h)
      · rcases List.mem_cons.mp h with rfl | h
        · exact List.mem_cons_self
        · rcases h2 h with h | h
          · exact List.mem_cons_of_mem _ h
          · cases h; exact List.mem_cons_self
theorem dd_strict : ∀ (xs : List (Int × Int)) (l : Option (Int × Int)), Rng xs → xs.Pairwise (fun a b => cdP a ≤ cdP b) → (∀ q, l = some q → (0 ≤ q.1 ∧ q.1 < 1000 ∧ 0 ≤ q.2 ∧ q.2 < 1000) ∧ ∀ p ∈ xs, cdP q ≤ cdP p) →
    (dd l xs).Pairwise (fun a b => cdP a < cdP b) ∧ ∀ q, l = some q → ∀ p ∈ dd l xs, cdP q < cdP p
  | [], l, _, _, _ => ⟨.nil, fun q _ p hp => by cases hp⟩
  | x :: r, l, hr, hs, hl => by
    rw [List.pairwise_cons] at hs
    have hr' : Rng r := fun p hp => hr p (List.mem_cons_of_mem _ hp)
    unfold dd
    by_cases c : l = some x
    · rw [if_pos c]
      exact dd_strict r l hr' hs.2 fun q hq => ⟨(hl q hq).1, fun p hp => (hl q hq).2 p (List.mem_cons_of_mem _ hp)⟩
    · rw [if_neg c]
      obtain ⟨i1, i2⟩ := dd_strict r (some x) hr' hs.2 (fun q hq => by cases hq; exact ⟨hr x List.mem_cons_self, hs.1⟩)
      refine ⟨List.pairwise_cons.mpr ⟨fun p hp => i2 x rfl p hp, i1⟩, fun q hq p hp => ?_⟩
      obtain ⟨q1, q2⟩ := hl q hq
      have hx := q2 x List.mem_cons_self
      have rx := hr x List.mem_cons_self
      have lt : cdP q < cdP x := by
        unfold cdP at hx ⊢
        by_cases e : q.1 * 1000 + q.2 = x.1 * 1000 + x.2
        · exfalso
          apply c
          rw [hq]
          congr 1
          exact Prod.ext (by omega) (by omega)
        · omega
      rcases List.mem_cons.mp hp with rfl | hp
      · exact lt
      · exact Int.lt_trans lt (i2 x rfl p hp)
def once (ps : List (Int × Int)) : List (Int × Int) := dd none (sortD ps)
theorem once_mem (ps : List (Int × Int)) (p : Int × Int) : p ∈ once ps ↔ p ∈ ps := by
  obtain ⟨h1, h2⟩ := dd_mem (sortD ps) none p
  have hm := (sortD_perm ps).mem_iff (a := p)
  exact ⟨fun h => hm.mp (h1 h), fun h => (h2 (hm.mpr h)).resolve_right (by simp)⟩
theorem once_inS {T : List Int} {ps : List (Int × Int)} (h : InS T ps) : InS T (once ps) := fun p hp => h p ((once_mem ps p).mp hp)
theorem once_len {T : List Int} {ps : List (Int × Int)} (h : InS T ps) (hT : RngS T) : (once ps).length ≤ 2 * T.length := by
  have hr := h.rng hT
  have hr2 : Rng (sortD ps) := fun p hp => hr p ((sortD_perm ps).mem_iff.mp hp)
  have st := (dd_strict (sortD ps) none hr2 (sortD_sorted ps) (fun q hq => by cases hq)).1
  have nd : (once ps).Nodup := st.imp fun {a b} h e => by rw [e] at h; omega
  have := nodup_len (ys := T.map (fun l => (l, (0 : Int))) ++ T.map (fun l => (l, (1 : Int)))) nd fun p hp => by
    obtain ⟨h1, h2⟩ := once_inS h p hp
    obtain ⟨a, b⟩ := p
    rcases h2 with h2 | h2 <;> simp only at h1 h2 <;> subst h2 <;> simp [h1]
  simp only [List.length_append, List.length_map] at this
  omega
def own : Co → List (Int × Int)
  | .stay => []
  | .same => []
  | .fail l s => [(l, s)]
  | .frm l s _ c => once ((l, s) :: own c)
  | .to _ c => once (own c)
  | .fn a b => once (own a ++ if a.pass then own b else [])
  | .pr a b => once (own a ++ own b)
theorem own_in {T : List Int} (hT : RngS T) : ∀ {c : Co}, c.labS T → InS T (own c) ∧ (own c).length ≤ 2 * T.length + 1 ∧ ∀ p, p ∈ own c ↔ p ∈ c.live
  | .stay, _ => ⟨fun p hp => (by cases hp), by simp [own], fun p => Iff.rfl⟩
  | .same, _ => ⟨fun p hp => (by cases hp), by simp [own], fun p => Iff.rfl⟩
  | .fail l s, h => by
    refine ⟨fun p hp => ?_, by simp [own], fun p => Iff.rfl⟩
    simp only [own, List.mem_cons, List.not_mem_nil, or_false] at hp
    subst hp; exact h
  | .frm l s t c, h => by
    obtain ⟨i1, _, i3⟩ := own_in hT (c := c) h.2
    obtain ⟨l1, _⟩ := live_in hT (c := c) h.2
    have r1 : InS T ((l, s) :: own c) := fun p hp => by
      rcases List.mem_cons.mp hp with rfl | hp
      · exact h.1
      · exact i1 p hp
    have r2 : InS T ((l, s) :: c.live) := fun p hp => by
      rcases List.mem_cons.mp hp with rfl | hp
      · exact h.1
      · exact l1 p hp
    refine ⟨once_inS r1, Nat.le_succ_of_le (once_len r1 hT), fun p => ?_⟩
    show p ∈ once ((l, s) :: own c) ↔ p ∈ sortP ((l, s) :: c.live)
    rw [once_mem, sortP_mem _ (r2.rng hT), List.mem_cons, List.mem_cons, i3]
  | .to t c, h => by
    obtain ⟨i1, _, i3⟩ := own_in hT (c := c) h
    obtain ⟨l1, _⟩ := live_in hT (c := c) h
    refine ⟨once_inS i1, Nat.le_succ_of_le (once_len i1 hT), fun p => ?_⟩
    show p ∈ once (own c) ↔ p ∈ sortP c.live
    rw [once_mem, sortP_mem _ (l1.rng hT), i3]
  | .fn a b, h => by
    obtain ⟨i1, _, i3⟩ := own_in hT (c := a) h.1
    obtain ⟨j1, _, j3⟩ := own_in hT (c := b) h.2
    obtain ⟨l1, _⟩ := live_in hT (c := a) h.1
    obtain ⟨l2, _⟩ := live_in hT (c := b) h.2
    have r1 : InS T (own a ++ if a.pass then own b else []) := i1.append (by split; exact j1; exact fun p hp => by cases hp)
    have r2 : InS T (a.live ++ (if b = a ∨ a.pass = true then b.live else [])) := l1.append (by split; exact l2; exact fun p hp => by cases hp)
    refine ⟨once_inS r1, Nat.le_succ_of_le (once_len r1 hT), fun p => ?_⟩
    show p ∈ once (own a ++ if a.pass then own b else []) ↔ p ∈ sortP (a.live ++ (if b = a ∨ a.pass = true then b.live else []))
    rw [once_mem, sortP_mem _ (r2.rng hT), List.mem_append, List.mem_append, i3]
    cases hp : a.pass with
    | true => simp [j3]
    | false =>
      by_cases e : b = a
      · subst e; simp
      · simp [e]
  | .pr a b, h => by
    obtain ⟨i1, _, i3⟩ := own_in hT (c := a) h.1
    obtain ⟨j1, _, j3⟩ := own_in hT (c := b) h.2
    obtain ⟨l1, _⟩ := live_in hT (c := a) h.1
    obtain ⟨l2, _⟩ := live_in hT (c := b) h.2
    refine ⟨once_inS (i1.append j1), Nat.le_succ_of_le (once_len (i1.append j1) hT), fun p => ?_⟩
    show p ∈ once (own a ++ own b) ↔ p ∈ sortP (a.live ++ b.live)
    rw [once_mem, sortP_mem _ ((l1.append l2).rng hT), List.mem_append, List.mem_append, i3, j3]
/-! ### mirrors -/
def B_once : MSs := (.cons (.iff (.or (.cmp .eq (.var 1) (.lst .nil)) (.one (.cmp .ne (.idx (.var 1) (.neg 1)) (.var 2)))) (.cons (.append (.var 1) (.var 2)) .nil) .nil) .nil)
theorem pd_data : ∀ ps : List (Int × Int), D.areData (ps.map pairD) = true
  | [] => rfl
  | p :: ps => by simp [D.areData, pairD, D.isData, pd_data ps]
theorem eq_nil (ps : List (Int × Int)) : eqD (.fl (ps.map pairD)) (.fl []) = some ps.isEmpty := by
  unfold eqD
  have h1 : (D.fl (ps.map pairD)).isData = true := pd_data ps
  have h2 : (D.fl []).isData = true := rfl
  have h3 : (D.fl []).shal deepest = true := rfl
  rw [h1, h2, h3, Bool.or_true]
  cases ps <;> rfl
theorem eq_pair (p q : Int × Int) : eqD (pairD p) (pairD q) = some (decide (p = q)) := by
  obtain ⟨a, b⟩ := p
  obtain ⟨c, d⟩ := q
  show eqD (.tup [.int a, .int b]) (.tup [.int c, .int d]) = _
  rw [eqD_i2]
  simp
  rfl
theorem at_last (bs : List (Int × Int)) (b : Int × Int) : D.at ((bs ++ [b]).map pairD) (-1) = some (pairD b) := by
  unfold D.at placeOf
  rw [if_neg (by omega), if_pos (by simp; omega)]
  have l1 : (-1 + ((((bs ++ [b]).map pairD).length : Nat) : Int)).toNat = bs.length := by simp; omega
  show ((bs ++ [b]).map pairD)[(-1 + ((((bs ++ [b]).map pairD).length : Nat) : Int)).toNat]? = _
  rw [l1, List.map_append, List.getElem?_append_right (by rw [List.length_map]; exact Nat.le_refl _), List.length_map, Nat.sub_self]
  rfl
theorem once_loop {C : Call} {m : Mem} {t0 : Option Slot} : ∀ (xs acc : List (Int × Int)) (t2 : Option Slot), acc.length + xs.length ≤ 1000 →
    ∃ t2', forEv (tgEv (.name 2)) (fun τ m => runSs G.consts C B_once τ m) (xs.map pairD) [t0, some (.own (.lst (acc.map pairD))), t2] m = .nx [t0, some (.own (.lst ((acc ++ dd acc.getLast? xs).map pairD))), t2'] m
  | [], acc, t2, _ => ⟨t2, by simp [dd]⟩
  | x :: xs, acc, t2, h => by
    simp only [List.length_cons] at h
    rw [List.map_cons, for_cons]
    have la : acc.length ≤ 999999 := by omega
    have hb : runSs G.consts C B_once [t0, some (.own (.lst (acc.map pairD))), some (.val (pairD x))] m = .nx [t0, some (.own (.lst ((if acc.getLast? = some x then acc else acc ++ [x]).map pairD))), some (.val (pairD x))] m := by
      rcases List.eq_nil_or_concat acc with rfl | ⟨bs, b, hbb⟩
      · have e := eq_nil []
        simp only [List.map_nil] at e
        simp [B_once, run_cons, e, lim_eq]
      · rw [List.concat_eq_append] at hbb
        subst hbb
        have e := eq_nil (bs ++ [b])
        have e2 : idxEv (.fl ((bs ++ [b]).map pairD)) (.int (-1)) = some (pairD b) := by rw [idx_fl, if_pos (by rw [List.length_map, lim_eq]; omega), at_last]
        have e3 := eq_pair b x
        have ne : (bs ++ [b]).isEmpty = false := by simp
        rw [ne] at e
        have gl : (bs ++ [b]).getLast? = some b := by simp
        have la' : ((bs ++ [b]).map pairD).length < 1000000 := by rw [List.length_map]; omega
        rw [gl]
        generalize hg : (bs ++ [b]) = bb at *
        by_cases c : b = x
        · subst c
          rw [decide_eq_true rfl] at e3
          simp [B_once, run_cons, e, lim_eq, -idx_fl, e2, e3]
        · rw [decide_eq_false c] at e3
          have hlt : bb.length < 1000000 := by omega
          simp [B_once, run_cons, e, lim_eq, -idx_fl, e2, e3, c, hlt]
    simp only [tg_name]
    have e0 : ([t0, some (.own (.lst (acc.map pairD))), t2] : Tau).set 2 (some (.val (pairD x))) = [t0, some (.own (.lst (acc.map pairD))), some (.val (pairD x))] := rfl
    rw [e0]
    rw [hb]
    by_cases c : acc.getLast? = some x
    · obtain ⟨t2', e⟩ := once_loop (C := C) (m := m) (t0 := t0) xs acc (some (.val (pairD x))) (by omega)
      refine ⟨t2', ?_⟩
      rw [if_pos c]
      simp only
      rw [e]
      have : dd acc.getLast? (x :: xs) = dd acc.getLast? xs := by conv => lhs; unfold dd; rw [if_pos c]
      rw [this]
    · obtain ⟨t2', e⟩ := once_loop (C := C) (m := m) (t0 := t0) xs (acc ++ [x]) (some (.val (pairD x))) (by simp only [List.length_append, List.length_cons, List.length_nil]; omega)
      refine ⟨t2', ?_⟩
      rw [if_neg c]
      simp only
      rw [e]
      have : dd acc.getLast? (x :: xs) = x :: dd (some x) xs := by conv => lhs; unfold dd; rw [if_neg c]
      rw [this]
      simp
theorem once_at {n : Nat} (hn : 1 ≤ n) (ps : List (Int × Int)) (hr : Rng ps) (hl : ps.length < 64) (m : Mem) : callN G n "_law_once" [.fl (ps.map pairD)] m = .ok (.own (.lst ((once ps).map pairD))) m := by
  obtain ⟨j, rfl⟩ : ∃ j, n = j + 1 := ⟨n - 1, by omega⟩
  rw [callN_eq (fn := F__law_once) rfl rfl]
  have hs : srtEv (.fl (ps.map pairD)) = some (.own (.lst ((sortD ps).map pairD))) := by
    show (if (ps.map pairD).length < 64 then (pairsOf (ps.map pairD)).map _ else none) = _
    rw [if_pos (by rw [List.length_map]; exact hl), pairsOf_map hr]
    rfl
  have hlen : (sortD ps).length ≤ 1000 := by rw [(sortD_perm ps).length_eq]; omega
  obtain ⟨t2, e⟩ := once_loop (C := callN G j) (m := m) (t0 := some (.val (.fl (ps.map pairD)))) (sortD ps) [] none (by simpa using hlen)
  have hF : F__law_once = ⟨1, ["rows", "found", "row"], .cons (.set 1 (.lst .nil)) (.cons (.for_ (.name 2) (.seq (.srt (.var 0))) B_once) (.cons (.ret (.var 1)) .nil))⟩ := rfl
  rw [hF]
  have e : forEv (tgEv (.name 2)) (fun τ m => runSs G.consts (callN G j) B_once τ m) ((sortD ps).map pairD) [some (.val (.fl (ps.map pairD))), some (.own (.lst [])), none] m = .nx [some (.val (.fl (ps.map pairD))), some (.own (.lst ((once ps).map pairD))), t2] m := e
  have hlen' : (sortD ps).length ≤ 1000000 := by omega
  simp [startT, run_cons, List.replicate, lim_eq, hs, hlen', e]
end P3.K91
set_option Elab.async false
set_option linter.all false
set_option maxRecDepth 100000
set_option maxHeartbeats 0
/-! U91: k91: owners, papers -/
namespace P3.K91
open PySem L2
theorem within_at {n : Nat} (hn : 1 ≤ n) (c : Co) (m : Mem) : callN G n "_law_within" [c.d] m = .ok (.own (.lst (c.subs.map Co.d))) m := by
  obtain ⟨j, rfl⟩ : ∃ j, n = j + 1 := ⟨n - 1, by omega⟩
  rw [callN_eq (fn := F__law_within) rfl rfl]
  have l1 : ∀ t c, bfEv .len (Co.to t c).d = some (.val (.int 3)) := fun _ _ => rfl
  have l2 : ∀ l s t c, bfEv .len (Co.frm l s t c).d = some (.val (.int 5)) := fun _ _ _ _ => rfl
  cases c <;> simp [F__law_within, startT, run_cons, List.replicate, lim_eq, Co.subs, l1, l2]
theorem owners_at {T : List Int} (hT : RngS T) (hl : T.length ≤ 12) : ∀ {c : Co}, c.labS T → ∀ {n : Nat}, c.ht + 3 ≤ n → ∀ m, callN G n "_law_owners" [c.d, .bl true] m = .ok (.own (.lst ((own c).map pairD))) m := by
  intro c
  induction c with
  | stay =>
    intro h n hn m
    obtain ⟨j, rfl⟩ : ∃ j, n = j + 1 := ⟨n - 1, by omega⟩
    have w := within_at (n := j) (by omega) .stay m
    have o : callN G j "_law_once" [.fl []] m = .ok (.own (.lst [])) m := once_at (n := j) (by omega) [] (fun p hp => by cases hp) (by simp) m
    rw [callN_eq (fn := F__law_owners) rfl rfl]
    simp [F__law_owners, startT, run_cons, List.replicate, lim_eq, w, Co.subs, o, own]
  | same =>
    intro h n hn m
    obtain ⟨j, rfl⟩ : ∃ j, n = j + 1 := ⟨n - 1, by omega⟩
    have w := within_at (n := j) (by omega) .same m
    have o : callN G j "_law_once" [.fl []] m = .ok (.own (.lst [])) m := once_at (n := j) (by omega) [] (fun p hp => by cases hp) (by simp) m
    rw [callN_eq (fn := F__law_owners) rfl rfl]
    simp [F__law_owners, startT, run_cons, List.replicate, lim_eq, w, Co.subs, o, own]
  | fail l s =>
    intro h n hn m
    obtain ⟨j, rfl⟩ : ∃ j, n = j + 1 := ⟨n - 1, by omega⟩
    have w := within_at (n := j) (by omega) (.fail l s) m
    have o : callN G j "_law_once" [.fl [.tup [.int l, .int s]]] m = .ok (.own (.lst [pairD (l, s)])) m := once_at (n := j) (by omega) [(l, s)] ((own_in hT (c := .fail l s) h).1.rng hT) (by simp) m
    rw [callN_eq (fn := F__law_owners) rfl rfl]
    simp [F__law_owners, startT, run_cons, List.replicate, lim_eq, w, Co.subs, o, own]
  | frm l s t c ih =>
    intro h n hn m
    simp only [Co.ht] at hn
    obtain ⟨j, rfl⟩ : ∃ j, n = j + 1 := ⟨n - 1, by omega⟩
    obtain ⟨i1, i2, _⟩ := own_in hT (c := c) h.2
    have r1 : InS T ((l, s) :: own c) := fun p hp => by
      rcases List.mem_cons.mp hp with rfl | hp
      · exact h.1
      · exact i1 p hp
    have w := within_at (n := j) (by omega) (.frm l s t c) m
    have o : callN G j "_law_once" [.fl (.tup [.int l, .int s] :: (own c).map pairD)] m = .ok (.own (.lst ((own (.frm l s t c)).map pairD))) m := once_at (n := j) (by omega) ((l, s) :: own c) (r1.rng hT) (by simp only [List.length_cons]; omega) m
    have hi := ih h.2 (n := j) (by omega) m
    have hle : 1 + (own c).length ≤ 1000000 := by omega
    rw [callN_eq (fn := F__law_owners) rfl rfl]
    simp [F__law_owners, startT, run_cons, List.replicate, lim_eq, w, Co.subs, o, for_cons, hi, hle]
  | to t c ih =>
    intro h n hn m
    simp only [Co.ht] at hn
    obtain ⟨j, rfl⟩ : ∃ j, n = j + 1 := ⟨n - 1, by omega⟩
    obtain ⟨i1, i2, _⟩ := own_in hT (c := c) h
    have w := within_at (n := j) (by omega) (.to t c) m
    have o : callN G j "_law_once" [.fl ((own c).map pairD)] m = .ok (.own (.lst ((own (.to t c)).map pairD))) m := once_at (n := j) (by omega) (own c) (i1.rng hT) (by omega) m
    have hi := ih h (n := j) (by omega) m
    have hle : (own c).length ≤ 1000000 := by omega
    rw [callN_eq (fn := F__law_owners) rfl rfl]
    simp [F__law_owners, startT, run_cons, List.replicate, lim_eq, w, Co.subs, o, for_cons, hi, hle]
  | fn a b ia ib =>
    intro h n hn m
    simp only [Co.ht] at hn
    obtain ⟨j, rfl⟩ : ∃ j, n = j + 1 := ⟨n - 1, by omega⟩
    obtain ⟨i1, i2, _⟩ := own_in hT (c := a) h.1
    obtain ⟨j1, j2, _⟩ := own_in hT (c := b) h.2
    have w := within_at (n := j) (by omega) (.fn a b) m
    have sh := shut_at hr (n := j) (by omega) a m
    have hi := ia h.1 (n := j) (by omega) m
    have hj := ib h.2 (n := j) (by omega) m
    have hle : (own a).length ≤ 1000000 := by omega
    have hle2 : (own a).length + (own b).length ≤ 1000000 := by omega
    rw [callN_eq (fn := F__law_owners) rfl rfl]
    cases hp : a.pass with
    | true =>
      have o : callN G j "_law_once" [.fl ((own a).map pairD ++ (own b).map pairD)] m = .ok (.own (.lst ((own (.fn a b)).map pairD))) m := by
        have := once_at (n := j) (by omega) (own a ++ own b) ((i1.append j1).rng hT) (by simp only [List.length_append]; omega) m
        rw [List.map_append] at this
        rw [this]
        simp [own, hp]
      rw [hp] at sh
      simp [F__law_owners, startT, run_cons, List.replicate, lim_eq, w, Co.subs, o, for_cons, hi, hj, hle, hle2, sh]
    | false =>
      have o : callN G j "_law_once" [.fl ((own a).map pairD)] m = .ok (.own (.lst ((own (.fn a b)).map pairD))) m := by
        rw [once_at (n := j) (by omega) (own a) (i1.rng hT) (by omega) m]
        simp [own, hp]
      rw [hp] at sh
      simp [F__law_owners, startT, run_cons, List.replicate, lim_eq, w, Co.subs, o, for_cons, hi, hle, sh]
  | pr a b ia ib =>
    intro h n hn m
    simp only [Co.ht] at hn
    obtain ⟨j, rfl⟩ : ∃ j, n = j + 1 := ⟨n - 1, by omega⟩
    obtain ⟨i1, i2, _⟩ := own_in hT (c := a) h.1
    obtain ⟨j1, j2, _⟩ := own_in hT (c := b) h.2
    have w := within_at (n := j) (by omega) (.pr a b) m
    have hi := ia h.1 (n := j) (by omega) m
    have hj := ib h.2 (n := j) (by omega) m
    have hle : (own a).length ≤ 1000000 := by omega
    have hle2 : (own a).length + (own b).length ≤ 1000000 := by omega
    have o : callN G j "_law_once" [.fl ((own a).map pairD ++ (own b).map pairD)] m = .ok (.own (.lst ((own (.pr a b)).map pairD))) m := by
      have := once_at (n := j) (by omega) (own a ++ own b) ((i1.append j1).rng hT) (by simp only [List.length_append]; omega) m
      rw [List.map_append] at this
      exact this
    rw [callN_eq (fn := F__law_owners) rfl rfl]
    simp [F__law_owners, startT, run_cons, List.replicate, lim_eq, w, Co.subs, o, for_cons, hi, hj, hle, hle2]
/-! ### junk is no core -/
abbrev L0 : List String := ["", "fun", "from", "same", "coerce", "blamed"]
abbrev L1 : List String := L0 ++ ["parts", "never", "alike", "owed", "passes", "to", "later", "name", "return"]
def FT : List (String × D) := (ct.tabs.getD 0 ("", [])).2
theorem noForm : ∀ s ∈ L0, FT.lookup s = none := by
  intro s hs
  simp only [L0, List.mem_cons, List.not_mem_nil, or_false] at hs
  rcases hs with rfl | rfl | rfl | rfl | rfl | rfl <;> rfl
theorem forms_t : G.consts.tab "FORMS_cores" = some FT := rfl
theorem is_core_at {n : Nat} {d : D} (h : jk L0 n d = true) {N : Nat} (hN : 1 ≤ N) (m : Mem) : callN G N "is_core" [d, .int 80] m = .ok (.val (.bl false)) m := by
  obtain ⟨j, rfl⟩ : ∃ j, N = j + 1 := ⟨N - 1, by omega⟩
  rw [callN_eq (fn := F_is_core) rfl rfl]
  by_cases hd : ∃ xs, d = .tup xs
  · obtain ⟨xs, rfl⟩ := hd
    cases n with
    | zero => simp [jk] at h
    | succ n =>
      rw [jk_tup, Bool.and_eq_true, decide_eq_true_eq] at h
      obtain ⟨hl, hx⟩ := h
      cases xs with
      | nil => simp [F_is_core, startT, run_cons, List.replicate, lim_eq]
      | cons w t =>
        rw [jks_cons, Bool.and_eq_true] at hx
        simp only [List.length_cons] at hl
        have hl9 : t.length ≤ 999999 := by omega
        by_cases hs : ∃ s, w = .str s
        · obtain ⟨s, rfl⟩ := hs
          have hm : s ∈ L0 := by
            have := hx.1
            cases n <;> (simp only [jk] at this; exact List.contains_iff_mem.mp this)
          have hf := noForm s hm
          have hz : ¬ ((t.length : Int) + 1 = 0) := by omega
          simp [F_is_core, startT, run_cons, List.replicate, lim_eq, hl9, hz, forms_t, hf]
        · have hs := not_str hx.1 fun s e => hs ⟨s, e⟩
          simp [F_is_core, startT, run_cons, List.replicate, lim_eq, hl9, hs]
  · have hi := not_tup h fun xs e => hd ⟨xs, e⟩
    simp [F_is_core, startT, run_cons, List.replicate, lim_eq, hi]
theorem is_trial_at {n : Nat} {a b : D} (h : jk L0 n a = true) (one two : D) {N : Nat} (hN : 2 ≤ N) (m : Mem) : callN G N "is_trial" [a, b, one, two] m = .ok (.val (.bl false)) m := by
  obtain ⟨j, rfl⟩ : ∃ j, N = j + 1 := ⟨N - 1, by omega⟩
  rw [callN_eq (fn := F_is_trial) rfl rfl]
  have c := is_core_at h (N := j) (by omega) m
  have d : G.consts.lookup "DEEPEST_trials" = some (.int 80) := rfl
  simp [F_is_trial, startT, run_cons, List.replicate, lim_eq, d, c]
/-! ### what is asked -/
/-- a value that is asked about: no tuple, or junk whose words are few -/
structure Odd (d : D) : Prop where
  data : d.isData = true
  ok : isiEv .tuple d = some false ∧ (∀ xs, d ≠ .tup xs) ∨ jk L1 7 d = true ∧ ∀ w a b, d = .tup [w, a, b] → jk L0 5 a = true
def isW (w : String) : D → Bool
  | .tup [.str s] => s == w
  | _ => false
theorem eqD_w {d : D} (h : d.isData = true) (w : String) : eqD d (.tup [.str w]) = some (isW w d) := by
  unfold eqD
  have h2 : (D.tup [.str w]).isData = true := rfl
  have h3 : (D.tup [.str w]).shal deepest = true := rfl
  rw [h, h2, h3, Bool.or_true]
  have : d.eqv (.tup [.str w]) = isW w d := by
    cases d <;> first | rfl | skip
    rename_i xs
    rw [eqv_tup]
    match xs with
    | [] => rfl
    | [x] => rw [eqvs_cons, eqvs_nil, Bool.and_true]; cases x <;> rfl
    | x :: y :: r => rw [eqvs_cons]; show (_ && false) = _; rw [Bool.and_false]; cases x <;> rfl
  rw [this]
  rfl
/-- the head of what is a tuple -/
theorem odd_cases {d : D} (h : Odd d) : (isiEv .tuple d = some false ∧ ∀ w, isW w d = false) ∨ d = .tup [] ∨ (∃ w t, d = .tup (w :: t) ∧ t.length ≤ 999999 ∧ isiEv .str w = some false ∧ ∀ v, isW v d = false) ∨ ∃ s t, d = .tup (.str s :: t) ∧ t.length ≤ 2 ∧ s ∈ L1 ∧ jks L1 6 t = true ∧ ∀ a b, t = [a, b] → jk L0 5 a = true := by
  rcases h.ok with ⟨h1, h2⟩ | ⟨h1, h2⟩
  · exact .inl ⟨h1, fun w => by cases d <;> first | rfl | exact absurd rfl (h2 _)⟩
  · by_cases hd : ∃ xs, d = .tup xs
    · obtain ⟨xs, rfl⟩ := hd
      rw [jk_tup, Bool.and_eq_true, decide_eq_true_eq] at h1
      obtain ⟨hl, hx⟩ := h1
      cases xs with
      | nil => exact .inr (.inl rfl)
      | cons w t =>
        rw [jks_cons, Bool.and_eq_true] at hx
        simp only [List.length_cons] at hl
        by_cases hs : ∃ s, w = .str s
        · obtain ⟨s, rfl⟩ := hs
          refine .inr (.inr (.inr ⟨s, t, rfl, by omega, ?_, hx.2, fun a b e => h2 (.str s) a b (by rw [e])⟩))
          have := hx.1
          simp only [jk] at this
          exact List.contains_iff_mem.mp this
        · have hs' : ∀ s, w ≠ .str s := fun s e => hs ⟨s, e⟩
          refine .inr (.inr (.inl ⟨w, t, rfl, by omega, not_str hx.1 hs', fun v => ?_⟩))
          cases t with
          | nil => cases w <;> first | rfl | exact absurd rfl (hs' _)
          | cons _ _ => cases w <;> rfl
    · exact .inl ⟨not_tup h1 fun xs e => hd ⟨xs, e⟩, fun w => by cases d <;> first | rfl | exact absurd ⟨_, rfl⟩ hd⟩
theorem nin_labs (x y : Int) (ps : List (Int × Int)) : cmpEv .nin (.tup [.int x, .int y]) (.tup (ps.map pairD)) = some (.bl (!decide ((x, y) ∈ ps))) := by
  have h := in_labs x y ps
  rw [in_tup] at h
  rw [nin_tup]
  split at h
  · rename_i c
    rw [if_pos c]
    have h := Option.some.inj h
    injection h with h
    rw [h]
  · cases h
theorem nin_labsL (x y : Int) (ps : List (Int × Int)) : cmpEv .nin (.tup [.int x, .int y]) (.fl (ps.map pairD)) = some (.bl (!decide ((x, y) ∈ ps))) := by
  have h := in_labs x y ps
  rw [in_tup] at h
  rw [nin_fl]
  split at h
  · rename_i c
    rw [if_pos c]
    have h := Option.some.inj h
    injection h with h
    rw [h]
  · cases h
section
variable {T : List Int} (hT : RngS T) (hl : T.length ≤ 12) {c : Co} (hc : c.labS T) (hh : c.ht < 199)
include hT hl hc hh in
theorem check_blame_at (one two : Kd) (x y : Int) {d : D} (hd : Odd d) {N : Nat} (hN : c.ht + 4 ≤ N) (m : Mem) : callN G N "check_blame" [c.d, one.d, two.d, .tup [.int x, .int y], d] m = .ok (.val (.bl (isW "never" d && !decide ((x, y) ∈ c.live)))) m := by
  obtain ⟨j, rfl⟩ : ∃ j, N = j + 1 := ⟨N - 1, by omega⟩
  rw [callN_eq (fn := F_check_blame) rfl rfl]
  have lv := liveA_at hT hl hc (by omega) (n := j) (by omega) m
  have nl := nin_labs x y c.live
  rcases odd_cases hd with ⟨h1, h2⟩ | rfl | ⟨w, t, rfl, h1, h2, h3⟩ | ⟨s, t, rfl, h1, h2, h3, h4⟩
  · rw [h2]; simp [F_check_blame, startT, run_cons, List.replicate, lim_eq, h1]
  · simp [F_check_blame, startT, run_cons, List.replicate, lim_eq, isW]
  · rw [h3]; simp [F_check_blame, startT, run_cons, List.replicate, lim_eq, h1, h2]
  · by_cases e1 : s = "never"
    · subst e1
      rcases tl2 h1 with rfl | ⟨a, rfl⟩ | ⟨a, b, rfl⟩ <;> simp [F_check_blame, startT, run_cons, List.replicate, lim_eq, lv, nl, isW]
    · have hw : isW "never" (.tup (.str s :: t)) = false := by
        cases t with
        | nil => simpa [isW] using e1
        | cons _ _ => rfl
      rw [hw]
      by_cases e2 : s = "blamed"
      · subst e2
        rcases tl2 h1 with rfl | ⟨a, rfl⟩ | ⟨a, b, rfl⟩
        · simp [F_check_blame, startT, run_cons, List.replicate, lim_eq]
        · simp [F_check_blame, startT, run_cons, List.replicate, lim_eq]
        · have tr := is_trial_at (b := b) (h4 a b rfl) one.d two.d (N := j) (by omega) m
          simp [F_check_blame, startT, run_cons, List.replicate, lim_eq, tr]
      · have hl9 : t.length ≤ 999999 := by omega
        have hz : ¬ ((t.length : Int) + 1 = 0) := by omega
        simp [F_check_blame, startT, run_cons, List.replicate, lim_eq, e1, e2, hl9, hz]
end
theorem paper_self (c : Co) (one two : Kd) (hh : c.ht < 199) {N : Nat} (hN : 4 ≤ N) (m : Mem) : callN G N "alike_paper" [c.d, c.d, one.d, two.d] m = .ok (.val (.tup [.str "alike"])) (m ++ [Trl 0]) := by
  obtain ⟨j, rfl⟩ : ∃ j, N = j + 1 + 1 + 1 := ⟨N - 3, by omega⟩
  have p : ∀ t m, callN G (j + 1 + 1) "parting" [t, c.d, c.d, one.d, two.d] m = .ok (.val .non) m := by
    intro t m
    rw [callN_eq (fn := F_parting) rfl rfl]
    simp [F_parting, startT, run_cons, List.replicate, eqD_co c c (by omega)]
  have mk : callN G (j + 1 + 1) "Trials" [.int 0] m = .ok (.val (.loc m.length)) (m ++ [Trl 0]) := by
    rw [callN_make (key := "Trials.__init__") rfl rfl, callN_eq (fn := F_Trials___init__) rfl rfl]
    have e : fldPut (m ++ [.inst "Trials" []]) "Trials" "label" (.val (.int 0)) (.loc m.length) = some (m ++ [Trl 0]) := by
      simp [fldPut, setF]
    simp [F_Trials___init__, startT, run_cons, e]
  rw [callN_eq (fn := F_alike_paper) rfl rfl]
  simp [F_alike_paper, startT, run_cons, List.replicate, lim_eq, mk, p]
theorem check_alike_at (c : Co) (one two : Kd) (hh : c.ht < 199) {d : D} (hd : Odd d) {N : Nat} (hN : 5 ≤ N) (m : Mem) : ∃ e, callN G N "check_alike" [c.d, c.d, one.d, two.d, d] m = .ok (.val (.bl (isW "alike" d))) (m ++ e) := by
  obtain ⟨j, rfl⟩ : ∃ j, N = j + 1 := ⟨N - 1, by omega⟩
  rw [callN_eq (fn := F_check_alike) rfl rfl]
  have pp := paper_self c one two hh (N := j) (by omega) m
  have ea : eqD (.tup [.str "alike"]) (.tup [.str "alike"]) = some true := by simp
  rcases odd_cases hd with ⟨h1, h2⟩ | rfl | ⟨w, t, rfl, h1, h2, h3⟩ | ⟨s, t, rfl, h1, h2, h3, h4⟩
  · rw [h2]; exact ⟨[], by simp [F_check_alike, startT, run_cons, List.replicate, lim_eq, h1]⟩
  · exact ⟨[], by simp [F_check_alike, startT, run_cons, List.replicate, lim_eq, isW]⟩
  · rw [h3]; exact ⟨[], by simp [F_check_alike, startT, run_cons, List.replicate, lim_eq, h1, h2]⟩
  · by_cases e1 : s = "alike"
    · subst e1
      rcases tl2 h1 with rfl | ⟨a, rfl⟩ | ⟨a, b, rfl⟩
      · exact ⟨[Trl 0], by simp [F_check_alike, startT, run_cons, List.replicate, lim_eq, pp, isW]⟩
      · exact ⟨[], by simp [F_check_alike, startT, run_cons, List.replicate, lim_eq, isW]⟩
      · exact ⟨[], by simp [F_check_alike, startT, run_cons, List.replicate, lim_eq, isW]⟩
    · have hw : isW "alike" (.tup (.str s :: t)) = false := by
        cases t with
        | nil => simpa [isW] using e1
        | cons _ _ => rfl
      rw [hw]
      refine ⟨[], ?_⟩
      by_cases e2 : s = "parts"
      · subst e2
        rcases tl2 h1 with rfl | ⟨a, rfl⟩ | ⟨a, b, rfl⟩
        · simp [F_check_alike, startT, run_cons, List.replicate, lim_eq]
        · simp [F_check_alike, startT, run_cons, List.replicate, lim_eq]
        · have tr := is_trial_at (b := b) (h4 a b rfl) one.d two.d (N := j) (by omega) m
          simp [F_check_alike, startT, run_cons, List.replicate, lim_eq, tr]
      · have hl9 : t.length ≤ 999999 := by omega
        have hz : ¬ ((t.length : Int) + 1 = 0) := by omega
        simp [F_check_alike, startT, run_cons, List.replicate, lim_eq, e1, e2, hl9, hz]
end P3.K91
set_option Elab.async false
set_option linter.all false
set_option maxRecDepth 100000
set_option maxHeartbeats 0
/-! V91: k91: rows, code (printed by gen91v.py) -/
namespace P3.K91
open PySem L2
def ST : List (String × D) := (ct.tabs.getD 1 ("", [])).2
theorem sizes_t : G.consts.tab "SIZES" = some ST := rfl
theorem st_none : ∀ s ∈ ["", "fun", "from", "same", "blamed", "parts", "never", "alike", "owed", "passes", "to"], ST.lookup s = none := by
  intro s hs
  simp only [List.mem_cons, List.not_mem_nil, or_false] at hs
  rcases hs with rfl | rfl | rfl | rfl | rfl | rfl | rfl | rfl | rfl | rfl | rfl <;> rfl
theorem st_coerce : ST.lookup "coerce" = some (.int 2) := rfl
theorem st_later : ST.lookup "later" = some (.int 2) := rfl
theorem st_name : ST.lookup "name" = some (.int 2) := rfl
theorem st_return : ST.lookup "return" = some (.int 1) := rfl
theorem most_c : G.consts.lookup "MOST" = some (.int 5000) := rfl
theorem deep_c : G.consts.lookup "DEEPEST_codes" = some (.int 100) := rfl
@[simp] theorem in_f9 (x a b c d e f g h i : String) : cmpEv .in_ (.str x) (.fl [.str a, .str b, .str c, .str d, .str e, .str f, .str g, .str h, .str i]) = some (.bl (a == x || (b == x || (c == x || (d == x || (e == x || (f == x || (g == x || (h == x || i == x))))))))) := by
  rw [in_fl]
  simp [D.isData, D.areData, sh_str, D.eqv]
@[simp] theorem in_s7 (x a b c d e f g : String) : cmpEv .in_ (.str x) (.tup [.str a, .str b, .str c, .str d, .str e, .str f, .str g]) = some (.bl (a == x || (b == x || (c == x || (d == x || (e == x || (f == x || g == x))))))) := by
  rw [in_tup]
  simp [D.isData, D.areData, sh_str, D.eqv]
abbrev mostD (k : Int) : List (D × D) := [(.str "word", .int 9999), (.str "truth", .int 1), (.str "name", .int 5000), (.str "fn", .int k), (.str "rec", .int k), (.str "unless", .int k), (.str "jump", .int k)]
theorem most_d (k : Int) : dictOf [.str "word", .int 9999, .str "truth", .int 1, .str "name", .int 5000, .str "fn", .int k, .str "rec", .int k, .str "unless", .int k, .str "jump", .int k] = some (mostD k) := rfl
theorem most_n (k : Int) : idxEv (.fd (mostD k)) (.str "name") = some (.int 5000) := rfl
abbrev RW : List String := ["coerce", "later", "name", "return"]
/-- a row of code, both say the same -/
def Row (d : D) : Prop := ∃ b, (∀ N m, 14 ≤ N → callN G N "is_row" [d] m = .ok (.val (.bl b)) m) ∧ (∀ N m (k : Int), 14 ≤ N → callN G N "_law_is_row" [d, .int k] m = .ok (.val (.bl b)) m) ∧ (b = true → ∃ s t, d = .tup (.str s :: t) ∧ t.length ≤ 2 ∧ s ∈ RW)
theorem row_ff {d : D} (h : (isiEv .tuple d = some false) ∨ d = .tup [] ∨ ∃ w t, d = .tup (w :: t) ∧ t.length ≤ 999999 ∧ isiEv .str w = some false) : Row d := by
  rcases h with h | rfl | ⟨w, t, rfl, hl, hs⟩
  · exact ⟨false, by (intro N m hN; obtain ⟨j, rfl⟩ : ∃ j, N = j + 1 := ⟨N - 1, (by omega)⟩; have hj : 11 ≤ j := (by omega); have h13 : 13 ≤ j := (by omega); have h10 : 10 ≤ j := (by omega); have h2 : 2 ≤ j := (by omega); have h1 : 1 ≤ j := (by omega); rw [callN_eq (fn := F_is_row) rfl rfl]; simp [F_is_row, startT, run_cons, List.replicate, lim_eq, hj, h13, h10, h1, h2, sizes_t, most_c, deep_c, most_d, most_n, h]), by (intro N m k hN; obtain ⟨j, rfl⟩ : ∃ j, N = j + 1 := ⟨N - 1, (by omega)⟩; have hj : 11 ≤ j := (by omega); have h13 : 13 ≤ j := (by omega); have h10 : 10 ≤ j := (by omega); have h2 : 2 ≤ j := (by omega); have h1 : 1 ≤ j := (by omega); rw [callN_eq (fn := F__law_is_row) rfl rfl]; simp [F__law_is_row, startT, run_cons, List.replicate, lim_eq, hj, h13, h10, h1, h2, sizes_t, most_c, deep_c, most_d, most_n, h]), fun h => (by cases h)⟩
  · exact ⟨false, by (intro N m hN; obtain ⟨j, rfl⟩ : ∃ j, N = j + 1 := ⟨N - 1, (by omega)⟩; have hj : 11 ≤ j := (by omega); have h13 : 13 ≤ j := (by omega); have h10 : 10 ≤ j := (by omega); have h2 : 2 ≤ j := (by omega); have h1 : 1 ≤ j := (by omega); rw [callN_eq (fn := F_is_row) rfl rfl]; simp [F_is_row, startT, run_cons, List.replicate, lim_eq, hj, h13, h10, h1, h2, sizes_t, most_c, deep_c, most_d, most_n]), by (intro N m k hN; obtain ⟨j, rfl⟩ : ∃ j, N = j + 1 := ⟨N - 1, (by omega)⟩; have hj : 11 ≤ j := (by omega); have h13 : 13 ≤ j := (by omega); have h10 : 10 ≤ j := (by omega); have h2 : 2 ≤ j := (by omega); have h1 : 1 ≤ j := (by omega); rw [callN_eq (fn := F__law_is_row) rfl rfl]; simp [F__law_is_row, startT, run_cons, List.replicate, lim_eq, hj, h13, h10, h1, h2, sizes_t, most_c, deep_c, most_d, most_n]), fun h => (by cases h)⟩
  · exact ⟨false, by (intro N m hN; obtain ⟨j, rfl⟩ : ∃ j, N = j + 1 := ⟨N - 1, (by omega)⟩; have hj : 11 ≤ j := (by omega); have h13 : 13 ≤ j := (by omega); have h10 : 10 ≤ j := (by omega); have h2 : 2 ≤ j := (by omega); have h1 : 1 ≤ j := (by omega); rw [callN_eq (fn := F_is_row) rfl rfl]; simp [F_is_row, startT, run_cons, List.replicate, lim_eq, hj, h13, h10, h1, h2, sizes_t, most_c, deep_c, most_d, most_n, hl, hs]), by (intro N m k hN; obtain ⟨j, rfl⟩ : ∃ j, N = j + 1 := ⟨N - 1, (by omega)⟩; have hj : 11 ≤ j := (by omega); have h13 : 13 ≤ j := (by omega); have h10 : 10 ≤ j := (by omega); have h2 : 2 ≤ j := (by omega); have h1 : 1 ≤ j := (by omega); rw [callN_eq (fn := F__law_is_row) rfl rfl]; simp [F__law_is_row, startT, run_cons, List.replicate, lim_eq, hj, h13, h10, h1, h2, sizes_t, most_c, deep_c, most_d, most_n, hl, hs]), fun h => (by cases h)⟩
theorem row_str {s : String} {t : List D} (hs : s ∈ L1) (hl : t.length ≤ 2) (ht : jks L1 5 t = true) : Row (.tup (.str s :: t)) := by
  simp only [L1, L0, List.cons_append, List.nil_append, List.mem_cons, List.not_mem_nil, or_false] at hs
  rcases tl2 hl with rfl | ⟨a, rfl⟩ | ⟨a, b, rfl⟩
  · rcases hs with rfl | rfl | rfl | rfl | rfl | rfl | rfl | rfl | rfl | rfl | rfl | rfl | rfl | rfl | rfl
    · have hn := st_none "" (by simp)
      exact ⟨false, by (intro N m hN; obtain ⟨j, rfl⟩ : ∃ j, N = j + 1 := ⟨N - 1, (by omega)⟩; have hj : 11 ≤ j := (by omega); have h13 : 13 ≤ j := (by omega); have h10 : 10 ≤ j := (by omega); have h2 : 2 ≤ j := (by omega); have h1 : 1 ≤ j := (by omega); rw [callN_eq (fn := F_is_row) rfl rfl]; simp [F_is_row, startT, run_cons, List.replicate, lim_eq, hj, h13, h10, h1, h2, sizes_t, most_c, deep_c, most_d, most_n, hn]), by (intro N m k hN; obtain ⟨j, rfl⟩ : ∃ j, N = j + 1 := ⟨N - 1, (by omega)⟩; have hj : 11 ≤ j := (by omega); have h13 : 13 ≤ j := (by omega); have h10 : 10 ≤ j := (by omega); have h2 : 2 ≤ j := (by omega); have h1 : 1 ≤ j := (by omega); rw [callN_eq (fn := F__law_is_row) rfl rfl]; simp [F__law_is_row, startT, run_cons, List.replicate, lim_eq, hj, h13, h10, h1, h2, sizes_t, most_c, deep_c, most_d, most_n, hn]), fun h => (by cases h)⟩
    · have hn := st_none "fun" (by simp)
      exact ⟨false, by (intro N m hN; obtain ⟨j, rfl⟩ : ∃ j, N = j + 1 := ⟨N - 1, (by omega)⟩; have hj : 11 ≤ j := (by omega); have h13 : 13 ≤ j := (by omega); have h10 : 10 ≤ j := (by omega); have h2 : 2 ≤ j := (by omega); have h1 : 1 ≤ j := (by omega); rw [callN_eq (fn := F_is_row) rfl rfl]; simp [F_is_row, startT, run_cons, List.replicate, lim_eq, hj, h13, h10, h1, h2, sizes_t, most_c, deep_c, most_d, most_n, hn]), by (intro N m k hN; obtain ⟨j, rfl⟩ : ∃ j, N = j + 1 := ⟨N - 1, (by omega)⟩; have hj : 11 ≤ j := (by omega); have h13 : 13 ≤ j := (by omega); have h10 : 10 ≤ j := (by omega); have h2 : 2 ≤ j := (by omega); have h1 : 1 ≤ j := (by omega); rw [callN_eq (fn := F__law_is_row) rfl rfl]; simp [F__law_is_row, startT, run_cons, List.replicate, lim_eq, hj, h13, h10, h1, h2, sizes_t, most_c, deep_c, most_d, most_n, hn]), fun h => (by cases h)⟩
    · have hn := st_none "from" (by simp)
      exact ⟨false, by (intro N m hN; obtain ⟨j, rfl⟩ : ∃ j, N = j + 1 := ⟨N - 1, (by omega)⟩; have hj : 11 ≤ j := (by omega); have h13 : 13 ≤ j := (by omega); have h10 : 10 ≤ j := (by omega); have h2 : 2 ≤ j := (by omega); have h1 : 1 ≤ j := (by omega); rw [callN_eq (fn := F_is_row) rfl rfl]; simp [F_is_row, startT, run_cons, List.replicate, lim_eq, hj, h13, h10, h1, h2, sizes_t, most_c, deep_c, most_d, most_n, hn]), by (intro N m k hN; obtain ⟨j, rfl⟩ : ∃ j, N = j + 1 := ⟨N - 1, (by omega)⟩; have hj : 11 ≤ j := (by omega); have h13 : 13 ≤ j := (by omega); have h10 : 10 ≤ j := (by omega); have h2 : 2 ≤ j := (by omega); have h1 : 1 ≤ j := (by omega); rw [callN_eq (fn := F__law_is_row) rfl rfl]; simp [F__law_is_row, startT, run_cons, List.replicate, lim_eq, hj, h13, h10, h1, h2, sizes_t, most_c, deep_c, most_d, most_n, hn]), fun h => (by cases h)⟩
    · have hn := st_none "same" (by simp)
      exact ⟨false, by (intro N m hN; obtain ⟨j, rfl⟩ : ∃ j, N = j + 1 := ⟨N - 1, (by omega)⟩; have hj : 11 ≤ j := (by omega); have h13 : 13 ≤ j := (by omega); have h10 : 10 ≤ j := (by omega); have h2 : 2 ≤ j := (by omega); have h1 : 1 ≤ j := (by omega); rw [callN_eq (fn := F_is_row) rfl rfl]; simp [F_is_row, startT, run_cons, List.replicate, lim_eq, hj, h13, h10, h1, h2, sizes_t, most_c, deep_c, most_d, most_n, hn]), by (intro N m k hN; obtain ⟨j, rfl⟩ : ∃ j, N = j + 1 := ⟨N - 1, (by omega)⟩; have hj : 11 ≤ j := (by omega); have h13 : 13 ≤ j := (by omega); have h10 : 10 ≤ j := (by omega); have h2 : 2 ≤ j := (by omega); have h1 : 1 ≤ j := (by omega); rw [callN_eq (fn := F__law_is_row) rfl rfl]; simp [F__law_is_row, startT, run_cons, List.replicate, lim_eq, hj, h13, h10, h1, h2, sizes_t, most_c, deep_c, most_d, most_n, hn]), fun h => (by cases h)⟩
    · exact ⟨false, by (intro N m hN; obtain ⟨j, rfl⟩ : ∃ j, N = j + 1 := ⟨N - 1, (by omega)⟩; have hj : 11 ≤ j := (by omega); have h13 : 13 ≤ j := (by omega); have h10 : 10 ≤ j := (by omega); have h2 : 2 ≤ j := (by omega); have h1 : 1 ≤ j := (by omega); rw [callN_eq (fn := F_is_row) rfl rfl]; simp [F_is_row, startT, run_cons, List.replicate, lim_eq, hj, h13, h10, h1, h2, sizes_t, most_c, deep_c, most_d, most_n, st_coerce]), by (intro N m k hN; obtain ⟨j, rfl⟩ : ∃ j, N = j + 1 := ⟨N - 1, (by omega)⟩; have hj : 11 ≤ j := (by omega); have h13 : 13 ≤ j := (by omega); have h10 : 10 ≤ j := (by omega); have h2 : 2 ≤ j := (by omega); have h1 : 1 ≤ j := (by omega); rw [callN_eq (fn := F__law_is_row) rfl rfl]; simp [F__law_is_row, startT, run_cons, List.replicate, lim_eq, hj, h13, h10, h1, h2, sizes_t, most_c, deep_c, most_d, most_n, st_coerce]), fun h => (by cases h)⟩
    · have hn := st_none "blamed" (by simp)
      exact ⟨false, by (intro N m hN; obtain ⟨j, rfl⟩ : ∃ j, N = j + 1 := ⟨N - 1, (by omega)⟩; have hj : 11 ≤ j := (by omega); have h13 : 13 ≤ j := (by omega); have h10 : 10 ≤ j := (by omega); have h2 : 2 ≤ j := (by omega); have h1 : 1 ≤ j := (by omega); rw [callN_eq (fn := F_is_row) rfl rfl]; simp [F_is_row, startT, run_cons, List.replicate, lim_eq, hj, h13, h10, h1, h2, sizes_t, most_c, deep_c, most_d, most_n, hn]), by (intro N m k hN; obtain ⟨j, rfl⟩ : ∃ j, N = j + 1 := ⟨N - 1, (by omega)⟩; have hj : 11 ≤ j := (by omega); have h13 : 13 ≤ j := (by omega); have h10 : 10 ≤ j := (by omega); have h2 : 2 ≤ j := (by omega); have h1 : 1 ≤ j := (by omega); rw [callN_eq (fn := F__law_is_row) rfl rfl]; simp [F__law_is_row, startT, run_cons, List.replicate, lim_eq, hj, h13, h10, h1, h2, sizes_t, most_c, deep_c, most_d, most_n, hn]), fun h => (by cases h)⟩
    · have hn := st_none "parts" (by simp)
      exact ⟨false, by (intro N m hN; obtain ⟨j, rfl⟩ : ∃ j, N = j + 1 := ⟨N - 1, (by omega)⟩; have hj : 11 ≤ j := (by omega); have h13 : 13 ≤ j := (by omega); have h10 : 10 ≤ j := (by omega); have h2 : 2 ≤ j := (by omega); have h1 : 1 ≤ j := (by omega); rw [callN_eq (fn := F_is_row) rfl rfl]; simp [F_is_row, startT, run_cons, List.replicate, lim_eq, hj, h13, h10, h1, h2, sizes_t, most_c, deep_c, most_d, most_n, hn]), by (intro N m k hN; obtain ⟨j, rfl⟩ : ∃ j, N = j + 1 := ⟨N - 1, (by omega)⟩; have hj : 11 ≤ j := (by omega); have h13 : 13 ≤ j := (by omega); have h10 : 10 ≤ j := (by omega); have h2 : 2 ≤ j := (by omega); have h1 : 1 ≤ j := (by omega); rw [callN_eq (fn := F__law_is_row) rfl rfl]; simp [F__law_is_row, startT, run_cons, List.replicate, lim_eq, hj, h13, h10, h1, h2, sizes_t, most_c, deep_c, most_d, most_n, hn]), fun h => (by cases h)⟩
    · have hn := st_none "never" (by simp)
      exact ⟨false, by (intro N m hN; obtain ⟨j, rfl⟩ : ∃ j, N = j + 1 := ⟨N - 1, (by omega)⟩; have hj : 11 ≤ j := (by omega); have h13 : 13 ≤ j := (by omega); have h10 : 10 ≤ j := (by omega); have h2 : 2 ≤ j := (by omega); have h1 : 1 ≤ j := (by omega); rw [callN_eq (fn := F_is_row) rfl rfl]; simp [F_is_row, startT, run_cons, List.replicate, lim_eq, hj, h13, h10, h1, h2, sizes_t, most_c, deep_c, most_d, most_n, hn]), by (intro N m k hN; obtain ⟨j, rfl⟩ : ∃ j, N = j + 1 := ⟨N - 1, (by omega)⟩; have hj : 11 ≤ j := (by omega); have h13 : 13 ≤ j := (by omega); have h10 : 10 ≤ j := (by omega); have h2 : 2 ≤ j := (by omega); have h1 : 1 ≤ j := (by omega); rw [callN_eq (fn := F__law_is_row) rfl rfl]; simp [F__law_is_row, startT, run_cons, List.replicate, lim_eq, hj, h13, h10, h1, h2, sizes_t, most_c, deep_c, most_d, most_n, hn]), fun h => (by cases h)⟩
    · have hn := st_none "alike" (by simp)
      exact ⟨false, by (intro N m hN; obtain ⟨j, rfl⟩ : ∃ j, N = j + 1 := ⟨N - 1, (by omega)⟩; have hj : 11 ≤ j := (by omega); have h13 : 13 ≤ j := (by omega); have h10 : 10 ≤ j := (by omega); have h2 : 2 ≤ j := (by omega); have h1 : 1 ≤ j := (by omega); rw [callN_eq (fn := F_is_row) rfl rfl]; simp [F_is_row, startT, run_cons, List.replicate, lim_eq, hj, h13, h10, h1, h2, sizes_t, most_c, deep_c, most_d, most_n, hn]), by (intro N m k hN; obtain ⟨j, rfl⟩ : ∃ j, N = j + 1 := ⟨N - 1, (by omega)⟩; have hj : 11 ≤ j := (by omega); have h13 : 13 ≤ j := (by omega); have h10 : 10 ≤ j := (by omega); have h2 : 2 ≤ j := (by omega); have h1 : 1 ≤ j := (by omega); rw [callN_eq (fn := F__law_is_row) rfl rfl]; simp [F__law_is_row, startT, run_cons, List.replicate, lim_eq, hj, h13, h10, h1, h2, sizes_t, most_c, deep_c, most_d, most_n, hn]), fun h => (by cases h)⟩
    · have hn := st_none "owed" (by simp)
      exact ⟨false, by (intro N m hN; obtain ⟨j, rfl⟩ : ∃ j, N = j + 1 := ⟨N - 1, (by omega)⟩; have hj : 11 ≤ j := (by omega); have h13 : 13 ≤ j := (by omega); have h10 : 10 ≤ j := (by omega); have h2 : 2 ≤ j := (by omega); have h1 : 1 ≤ j := (by omega); rw [callN_eq (fn := F_is_row) rfl rfl]; simp [F_is_row, startT, run_cons, List.replicate, lim_eq, hj, h13, h10, h1, h2, sizes_t, most_c, deep_c, most_d, most_n, hn]), by (intro N m k hN; obtain ⟨j, rfl⟩ : ∃ j, N = j + 1 := ⟨N - 1, (by omega)⟩; have hj : 11 ≤ j := (by omega); have h13 : 13 ≤ j := (by omega); have h10 : 10 ≤ j := (by omega); have h2 : 2 ≤ j := (by omega); have h1 : 1 ≤ j := (by omega); rw [callN_eq (fn := F__law_is_row) rfl rfl]; simp [F__law_is_row, startT, run_cons, List.replicate, lim_eq, hj, h13, h10, h1, h2, sizes_t, most_c, deep_c, most_d, most_n, hn]), fun h => (by cases h)⟩
    · have hn := st_none "passes" (by simp)
      exact ⟨false, by (intro N m hN; obtain ⟨j, rfl⟩ : ∃ j, N = j + 1 := ⟨N - 1, (by omega)⟩; have hj : 11 ≤ j := (by omega); have h13 : 13 ≤ j := (by omega); have h10 : 10 ≤ j := (by omega); have h2 : 2 ≤ j := (by omega); have h1 : 1 ≤ j := (by omega); rw [callN_eq (fn := F_is_row) rfl rfl]; simp [F_is_row, startT, run_cons, List.replicate, lim_eq, hj, h13, h10, h1, h2, sizes_t, most_c, deep_c, most_d, most_n, hn]), by (intro N m k hN; obtain ⟨j, rfl⟩ : ∃ j, N = j + 1 := ⟨N - 1, (by omega)⟩; have hj : 11 ≤ j := (by omega); have h13 : 13 ≤ j := (by omega); have h10 : 10 ≤ j := (by omega); have h2 : 2 ≤ j := (by omega); have h1 : 1 ≤ j := (by omega); rw [callN_eq (fn := F__law_is_row) rfl rfl]; simp [F__law_is_row, startT, run_cons, List.replicate, lim_eq, hj, h13, h10, h1, h2, sizes_t, most_c, deep_c, most_d, most_n, hn]), fun h => (by cases h)⟩
    · have hn := st_none "to" (by simp)
      exact ⟨false, by (intro N m hN; obtain ⟨j, rfl⟩ : ∃ j, N = j + 1 := ⟨N - 1, (by omega)⟩; have hj : 11 ≤ j := (by omega); have h13 : 13 ≤ j := (by omega); have h10 : 10 ≤ j := (by omega); have h2 : 2 ≤ j := (by omega); have h1 : 1 ≤ j := (by omega); rw [callN_eq (fn := F_is_row) rfl rfl]; simp [F_is_row, startT, run_cons, List.replicate, lim_eq, hj, h13, h10, h1, h2, sizes_t, most_c, deep_c, most_d, most_n, hn]), by (intro N m k hN; obtain ⟨j, rfl⟩ : ∃ j, N = j + 1 := ⟨N - 1, (by omega)⟩; have hj : 11 ≤ j := (by omega); have h13 : 13 ≤ j := (by omega); have h10 : 10 ≤ j := (by omega); have h2 : 2 ≤ j := (by omega); have h1 : 1 ≤ j := (by omega); rw [callN_eq (fn := F__law_is_row) rfl rfl]; simp [F__law_is_row, startT, run_cons, List.replicate, lim_eq, hj, h13, h10, h1, h2, sizes_t, most_c, deep_c, most_d, most_n, hn]), fun h => (by cases h)⟩
    · exact ⟨false, by (intro N m hN; obtain ⟨j, rfl⟩ : ∃ j, N = j + 1 := ⟨N - 1, (by omega)⟩; have hj : 11 ≤ j := (by omega); have h13 : 13 ≤ j := (by omega); have h10 : 10 ≤ j := (by omega); have h2 : 2 ≤ j := (by omega); have h1 : 1 ≤ j := (by omega); rw [callN_eq (fn := F_is_row) rfl rfl]; simp [F_is_row, startT, run_cons, List.replicate, lim_eq, hj, h13, h10, h1, h2, sizes_t, most_c, deep_c, most_d, most_n, st_later]), by (intro N m k hN; obtain ⟨j, rfl⟩ : ∃ j, N = j + 1 := ⟨N - 1, (by omega)⟩; have hj : 11 ≤ j := (by omega); have h13 : 13 ≤ j := (by omega); have h10 : 10 ≤ j := (by omega); have h2 : 2 ≤ j := (by omega); have h1 : 1 ≤ j := (by omega); rw [callN_eq (fn := F__law_is_row) rfl rfl]; simp [F__law_is_row, startT, run_cons, List.replicate, lim_eq, hj, h13, h10, h1, h2, sizes_t, most_c, deep_c, most_d, most_n, st_later]), fun h => (by cases h)⟩
    · exact ⟨false, by (intro N m hN; obtain ⟨j, rfl⟩ : ∃ j, N = j + 1 := ⟨N - 1, (by omega)⟩; have hj : 11 ≤ j := (by omega); have h13 : 13 ≤ j := (by omega); have h10 : 10 ≤ j := (by omega); have h2 : 2 ≤ j := (by omega); have h1 : 1 ≤ j := (by omega); rw [callN_eq (fn := F_is_row) rfl rfl]; simp [F_is_row, startT, run_cons, List.replicate, lim_eq, hj, h13, h10, h1, h2, sizes_t, most_c, deep_c, most_d, most_n, st_name]), by (intro N m k hN; obtain ⟨j, rfl⟩ : ∃ j, N = j + 1 := ⟨N - 1, (by omega)⟩; have hj : 11 ≤ j := (by omega); have h13 : 13 ≤ j := (by omega); have h10 : 10 ≤ j := (by omega); have h2 : 2 ≤ j := (by omega); have h1 : 1 ≤ j := (by omega); rw [callN_eq (fn := F__law_is_row) rfl rfl]; simp [F__law_is_row, startT, run_cons, List.replicate, lim_eq, hj, h13, h10, h1, h2, sizes_t, most_c, deep_c, most_d, most_n, st_name]), fun h => (by cases h)⟩
    · exact ⟨true, by (intro N m hN; obtain ⟨j, rfl⟩ : ∃ j, N = j + 1 := ⟨N - 1, (by omega)⟩; have hj : 11 ≤ j := (by omega); have h13 : 13 ≤ j := (by omega); have h10 : 10 ≤ j := (by omega); have h2 : 2 ≤ j := (by omega); have h1 : 1 ≤ j := (by omega); rw [callN_eq (fn := F_is_row) rfl rfl]; simp [F_is_row, startT, run_cons, List.replicate, lim_eq, hj, h13, h10, h1, h2, sizes_t, most_c, deep_c, most_d, most_n, st_return]), by (intro N m k hN; obtain ⟨j, rfl⟩ : ∃ j, N = j + 1 := ⟨N - 1, (by omega)⟩; have hj : 11 ≤ j := (by omega); have h13 : 13 ≤ j := (by omega); have h10 : 10 ≤ j := (by omega); have h2 : 2 ≤ j := (by omega); have h1 : 1 ≤ j := (by omega); rw [callN_eq (fn := F__law_is_row) rfl rfl]; simp [F__law_is_row, startT, run_cons, List.replicate, lim_eq, hj, h13, h10, h1, h2, sizes_t, most_c, deep_c, most_d, most_n, st_return]), fun _ => ⟨_, _, rfl, by simp, by simp⟩⟩
  · have ja := jk1 ht
    rcases hs with rfl | rfl | rfl | rfl | rfl | rfl | rfl | rfl | rfl | rfl | rfl | rfl | rfl | rfl | rfl
    · have hn := st_none "" (by simp)
      exact ⟨false, by (intro N m hN; obtain ⟨j, rfl⟩ : ∃ j, N = j + 1 := ⟨N - 1, (by omega)⟩; have hj : 11 ≤ j := (by omega); have h13 : 13 ≤ j := (by omega); have h10 : 10 ≤ j := (by omega); have h2 : 2 ≤ j := (by omega); have h1 : 1 ≤ j := (by omega); rw [callN_eq (fn := F_is_row) rfl rfl]; simp [F_is_row, startT, run_cons, List.replicate, lim_eq, hj, h13, h10, h1, h2, sizes_t, most_c, deep_c, most_d, most_n, hn]), by (intro N m k hN; obtain ⟨j, rfl⟩ : ∃ j, N = j + 1 := ⟨N - 1, (by omega)⟩; have hj : 11 ≤ j := (by omega); have h13 : 13 ≤ j := (by omega); have h10 : 10 ≤ j := (by omega); have h2 : 2 ≤ j := (by omega); have h1 : 1 ≤ j := (by omega); rw [callN_eq (fn := F__law_is_row) rfl rfl]; simp [F__law_is_row, startT, run_cons, List.replicate, lim_eq, hj, h13, h10, h1, h2, sizes_t, most_c, deep_c, most_d, most_n, hn]), fun h => (by cases h)⟩
    · have hn := st_none "fun" (by simp)
      exact ⟨false, by (intro N m hN; obtain ⟨j, rfl⟩ : ∃ j, N = j + 1 := ⟨N - 1, (by omega)⟩; have hj : 11 ≤ j := (by omega); have h13 : 13 ≤ j := (by omega); have h10 : 10 ≤ j := (by omega); have h2 : 2 ≤ j := (by omega); have h1 : 1 ≤ j := (by omega); rw [callN_eq (fn := F_is_row) rfl rfl]; simp [F_is_row, startT, run_cons, List.replicate, lim_eq, hj, h13, h10, h1, h2, sizes_t, most_c, deep_c, most_d, most_n, hn]), by (intro N m k hN; obtain ⟨j, rfl⟩ : ∃ j, N = j + 1 := ⟨N - 1, (by omega)⟩; have hj : 11 ≤ j := (by omega); have h13 : 13 ≤ j := (by omega); have h10 : 10 ≤ j := (by omega); have h2 : 2 ≤ j := (by omega); have h1 : 1 ≤ j := (by omega); rw [callN_eq (fn := F__law_is_row) rfl rfl]; simp [F__law_is_row, startT, run_cons, List.replicate, lim_eq, hj, h13, h10, h1, h2, sizes_t, most_c, deep_c, most_d, most_n, hn]), fun h => (by cases h)⟩
    · have hn := st_none "from" (by simp)
      exact ⟨false, by (intro N m hN; obtain ⟨j, rfl⟩ : ∃ j, N = j + 1 := ⟨N - 1, (by omega)⟩; have hj : 11 ≤ j := (by omega); have h13 : 13 ≤ j := (by omega); have h10 : 10 ≤ j := (by omega); have h2 : 2 ≤ j := (by omega); have h1 : 1 ≤ j := (by omega); rw [callN_eq (fn := F_is_row) rfl rfl]; simp [F_is_row, startT, run_cons, List.replicate, lim_eq, hj, h13, h10, h1, h2, sizes_t, most_c, deep_c, most_d, most_n, hn]), by (intro N m k hN; obtain ⟨j, rfl⟩ : ∃ j, N = j + 1 := ⟨N - 1, (by omega)⟩; have hj : 11 ≤ j := (by omega); have h13 : 13 ≤ j := (by omega); have h10 : 10 ≤ j := (by omega); have h2 : 2 ≤ j := (by omega); have h1 : 1 ≤ j := (by omega); rw [callN_eq (fn := F__law_is_row) rfl rfl]; simp [F__law_is_row, startT, run_cons, List.replicate, lim_eq, hj, h13, h10, h1, h2, sizes_t, most_c, deep_c, most_d, most_n, hn]), fun h => (by cases h)⟩
    · have hn := st_none "same" (by simp)
      exact ⟨false, by (intro N m hN; obtain ⟨j, rfl⟩ : ∃ j, N = j + 1 := ⟨N - 1, (by omega)⟩; have hj : 11 ≤ j := (by omega); have h13 : 13 ≤ j := (by omega); have h10 : 10 ≤ j := (by omega); have h2 : 2 ≤ j := (by omega); have h1 : 1 ≤ j := (by omega); rw [callN_eq (fn := F_is_row) rfl rfl]; simp [F_is_row, startT, run_cons, List.replicate, lim_eq, hj, h13, h10, h1, h2, sizes_t, most_c, deep_c, most_d, most_n, hn]), by (intro N m k hN; obtain ⟨j, rfl⟩ : ∃ j, N = j + 1 := ⟨N - 1, (by omega)⟩; have hj : 11 ≤ j := (by omega); have h13 : 13 ≤ j := (by omega); have h10 : 10 ≤ j := (by omega); have h2 : 2 ≤ j := (by omega); have h1 : 1 ≤ j := (by omega); rw [callN_eq (fn := F__law_is_row) rfl rfl]; simp [F__law_is_row, startT, run_cons, List.replicate, lim_eq, hj, h13, h10, h1, h2, sizes_t, most_c, deep_c, most_d, most_n, hn]), fun h => (by cases h)⟩
    · obtain ⟨bb, e1, e2, _⟩ := shape_at 5 a ja 100
      exact ⟨bb, by (intro N m hN; obtain ⟨j, rfl⟩ : ∃ j, N = j + 1 := ⟨N - 1, (by omega)⟩; have hj : 11 ≤ j := (by omega); have h13 : 13 ≤ j := (by omega); have h10 : 10 ≤ j := (by omega); have h2 : 2 ≤ j := (by omega); have h1 : 1 ≤ j := (by omega); rw [callN_eq (fn := F_is_row) rfl rfl]; simp [F_is_row, startT, run_cons, List.replicate, lim_eq, hj, h13, h10, h1, h2, sizes_t, most_c, deep_c, most_d, most_n, st_coerce, e1, e2]), by (intro N m k hN; obtain ⟨j, rfl⟩ : ∃ j, N = j + 1 := ⟨N - 1, (by omega)⟩; have hj : 11 ≤ j := (by omega); have h13 : 13 ≤ j := (by omega); have h10 : 10 ≤ j := (by omega); have h2 : 2 ≤ j := (by omega); have h1 : 1 ≤ j := (by omega); rw [callN_eq (fn := F__law_is_row) rfl rfl]; simp [F__law_is_row, startT, run_cons, List.replicate, lim_eq, hj, h13, h10, h1, h2, sizes_t, most_c, deep_c, most_d, most_n, st_coerce, e1, e2]), fun _ => ⟨_, _, rfl, by simp, by simp⟩⟩
    · have hn := st_none "blamed" (by simp)
      exact ⟨false, by (intro N m hN; obtain ⟨j, rfl⟩ : ∃ j, N = j + 1 := ⟨N - 1, (by omega)⟩; have hj : 11 ≤ j := (by omega); have h13 : 13 ≤ j := (by omega); have h10 : 10 ≤ j := (by omega); have h2 : 2 ≤ j := (by omega); have h1 : 1 ≤ j := (by omega); rw [callN_eq (fn := F_is_row) rfl rfl]; simp [F_is_row, startT, run_cons, List.replicate, lim_eq, hj, h13, h10, h1, h2, sizes_t, most_c, deep_c, most_d, most_n, hn]), by (intro N m k hN; obtain ⟨j, rfl⟩ : ∃ j, N = j + 1 := ⟨N - 1, (by omega)⟩; have hj : 11 ≤ j := (by omega); have h13 : 13 ≤ j := (by omega); have h10 : 10 ≤ j := (by omega); have h2 : 2 ≤ j := (by omega); have h1 : 1 ≤ j := (by omega); rw [callN_eq (fn := F__law_is_row) rfl rfl]; simp [F__law_is_row, startT, run_cons, List.replicate, lim_eq, hj, h13, h10, h1, h2, sizes_t, most_c, deep_c, most_d, most_n, hn]), fun h => (by cases h)⟩
    · have hn := st_none "parts" (by simp)
      exact ⟨false, by (intro N m hN; obtain ⟨j, rfl⟩ : ∃ j, N = j + 1 := ⟨N - 1, (by omega)⟩; have hj : 11 ≤ j := (by omega); have h13 : 13 ≤ j := (by omega); have h10 : 10 ≤ j := (by omega); have h2 : 2 ≤ j := (by omega); have h1 : 1 ≤ j := (by omega); rw [callN_eq (fn := F_is_row) rfl rfl]; simp [F_is_row, startT, run_cons, List.replicate, lim_eq, hj, h13, h10, h1, h2, sizes_t, most_c, deep_c, most_d, most_n, hn]), by (intro N m k hN; obtain ⟨j, rfl⟩ : ∃ j, N = j + 1 := ⟨N - 1, (by omega)⟩; have hj : 11 ≤ j := (by omega); have h13 : 13 ≤ j := (by omega); have h10 : 10 ≤ j := (by omega); have h2 : 2 ≤ j := (by omega); have h1 : 1 ≤ j := (by omega); rw [callN_eq (fn := F__law_is_row) rfl rfl]; simp [F__law_is_row, startT, run_cons, List.replicate, lim_eq, hj, h13, h10, h1, h2, sizes_t, most_c, deep_c, most_d, most_n, hn]), fun h => (by cases h)⟩
    · have hn := st_none "never" (by simp)
      exact ⟨false, by (intro N m hN; obtain ⟨j, rfl⟩ : ∃ j, N = j + 1 := ⟨N - 1, (by omega)⟩; have hj : 11 ≤ j := (by omega); have h13 : 13 ≤ j := (by omega); have h10 : 10 ≤ j := (by omega); have h2 : 2 ≤ j := (by omega); have h1 : 1 ≤ j := (by omega); rw [callN_eq (fn := F_is_row) rfl rfl]; simp [F_is_row, startT, run_cons, List.replicate, lim_eq, hj, h13, h10, h1, h2, sizes_t, most_c, deep_c, most_d, most_n, hn]), by (intro N m k hN; obtain ⟨j, rfl⟩ : ∃ j, N = j + 1 := ⟨N - 1, (by omega)⟩; have hj : 11 ≤ j := (by omega); have h13 : 13 ≤ j := (by omega); have h10 : 10 ≤ j := (by omega); have h2 : 2 ≤ j := (by omega); have h1 : 1 ≤ j := (by omega); rw [callN_eq (fn := F__law_is_row) rfl rfl]; simp [F__law_is_row, startT, run_cons, List.replicate, lim_eq, hj, h13, h10, h1, h2, sizes_t, most_c, deep_c, most_d, most_n, hn]), fun h => (by cases h)⟩
    · have hn := st_none "alike" (by simp)
      exact ⟨false, by (intro N m hN; obtain ⟨j, rfl⟩ : ∃ j, N = j + 1 := ⟨N - 1, (by omega)⟩; have hj : 11 ≤ j := (by omega); have h13 : 13 ≤ j := (by omega); have h10 : 10 ≤ j := (by omega); have h2 : 2 ≤ j := (by omega); have h1 : 1 ≤ j := (by omega); rw [callN_eq (fn := F_is_row) rfl rfl]; simp [F_is_row, startT, run_cons, List.replicate, lim_eq, hj, h13, h10, h1, h2, sizes_t, most_c, deep_c, most_d, most_n, hn]), by (intro N m k hN; obtain ⟨j, rfl⟩ : ∃ j, N = j + 1 := ⟨N - 1, (by omega)⟩; have hj : 11 ≤ j := (by omega); have h13 : 13 ≤ j := (by omega); have h10 : 10 ≤ j := (by omega); have h2 : 2 ≤ j := (by omega); have h1 : 1 ≤ j := (by omega); rw [callN_eq (fn := F__law_is_row) rfl rfl]; simp [F__law_is_row, startT, run_cons, List.replicate, lim_eq, hj, h13, h10, h1, h2, sizes_t, most_c, deep_c, most_d, most_n, hn]), fun h => (by cases h)⟩
    · have hn := st_none "owed" (by simp)
      exact ⟨false, by (intro N m hN; obtain ⟨j, rfl⟩ : ∃ j, N = j + 1 := ⟨N - 1, (by omega)⟩; have hj : 11 ≤ j := (by omega); have h13 : 13 ≤ j := (by omega); have h10 : 10 ≤ j := (by omega); have h2 : 2 ≤ j := (by omega); have h1 : 1 ≤ j := (by omega); rw [callN_eq (fn := F_is_row) rfl rfl]; simp [F_is_row, startT, run_cons, List.replicate, lim_eq, hj, h13, h10, h1, h2, sizes_t, most_c, deep_c, most_d, most_n, hn]), by (intro N m k hN; obtain ⟨j, rfl⟩ : ∃ j, N = j + 1 := ⟨N - 1, (by omega)⟩; have hj : 11 ≤ j := (by omega); have h13 : 13 ≤ j := (by omega); have h10 : 10 ≤ j := (by omega); have h2 : 2 ≤ j := (by omega); have h1 : 1 ≤ j := (by omega); rw [callN_eq (fn := F__law_is_row) rfl rfl]; simp [F__law_is_row, startT, run_cons, List.replicate, lim_eq, hj, h13, h10, h1, h2, sizes_t, most_c, deep_c, most_d, most_n, hn]), fun h => (by cases h)⟩
    · have hn := st_none "passes" (by simp)
      exact ⟨false, by (intro N m hN; obtain ⟨j, rfl⟩ : ∃ j, N = j + 1 := ⟨N - 1, (by omega)⟩; have hj : 11 ≤ j := (by omega); have h13 : 13 ≤ j := (by omega); have h10 : 10 ≤ j := (by omega); have h2 : 2 ≤ j := (by omega); have h1 : 1 ≤ j := (by omega); rw [callN_eq (fn := F_is_row) rfl rfl]; simp [F_is_row, startT, run_cons, List.replicate, lim_eq, hj, h13, h10, h1, h2, sizes_t, most_c, deep_c, most_d, most_n, hn]), by (intro N m k hN; obtain ⟨j, rfl⟩ : ∃ j, N = j + 1 := ⟨N - 1, (by omega)⟩; have hj : 11 ≤ j := (by omega); have h13 : 13 ≤ j := (by omega); have h10 : 10 ≤ j := (by omega); have h2 : 2 ≤ j := (by omega); have h1 : 1 ≤ j := (by omega); rw [callN_eq (fn := F__law_is_row) rfl rfl]; simp [F__law_is_row, startT, run_cons, List.replicate, lim_eq, hj, h13, h10, h1, h2, sizes_t, most_c, deep_c, most_d, most_n, hn]), fun h => (by cases h)⟩
    · have hn := st_none "to" (by simp)
      exact ⟨false, by (intro N m hN; obtain ⟨j, rfl⟩ : ∃ j, N = j + 1 := ⟨N - 1, (by omega)⟩; have hj : 11 ≤ j := (by omega); have h13 : 13 ≤ j := (by omega); have h10 : 10 ≤ j := (by omega); have h2 : 2 ≤ j := (by omega); have h1 : 1 ≤ j := (by omega); rw [callN_eq (fn := F_is_row) rfl rfl]; simp [F_is_row, startT, run_cons, List.replicate, lim_eq, hj, h13, h10, h1, h2, sizes_t, most_c, deep_c, most_d, most_n, hn]), by (intro N m k hN; obtain ⟨j, rfl⟩ : ∃ j, N = j + 1 := ⟨N - 1, (by omega)⟩; have hj : 11 ≤ j := (by omega); have h13 : 13 ≤ j := (by omega); have h10 : 10 ≤ j := (by omega); have h2 : 2 ≤ j := (by omega); have h1 : 1 ≤ j := (by omega); rw [callN_eq (fn := F__law_is_row) rfl rfl]; simp [F__law_is_row, startT, run_cons, List.replicate, lim_eq, hj, h13, h10, h1, h2, sizes_t, most_c, deep_c, most_d, most_n, hn]), fun h => (by cases h)⟩
    · obtain ⟨bb, e1, e2, _⟩ := shape_at 5 a ja 100
      exact ⟨bb, by (intro N m hN; obtain ⟨j, rfl⟩ : ∃ j, N = j + 1 := ⟨N - 1, (by omega)⟩; have hj : 11 ≤ j := (by omega); have h13 : 13 ≤ j := (by omega); have h10 : 10 ≤ j := (by omega); have h2 : 2 ≤ j := (by omega); have h1 : 1 ≤ j := (by omega); rw [callN_eq (fn := F_is_row) rfl rfl]; simp [F_is_row, startT, run_cons, List.replicate, lim_eq, hj, h13, h10, h1, h2, sizes_t, most_c, deep_c, most_d, most_n, st_later, e1, e2]), by (intro N m k hN; obtain ⟨j, rfl⟩ : ∃ j, N = j + 1 := ⟨N - 1, (by omega)⟩; have hj : 11 ≤ j := (by omega); have h13 : 13 ≤ j := (by omega); have h10 : 10 ≤ j := (by omega); have h2 : 2 ≤ j := (by omega); have h1 : 1 ≤ j := (by omega); rw [callN_eq (fn := F__law_is_row) rfl rfl]; simp [F__law_is_row, startT, run_cons, List.replicate, lim_eq, hj, h13, h10, h1, h2, sizes_t, most_c, deep_c, most_d, most_n, st_later, e1, e2]), fun _ => ⟨_, _, rfl, by simp, by simp⟩⟩
    · have e1 := fun N m (h : 2 ≤ N) => is_from_at ja 0 5000 (N := N) h m
      have e2 := fun N m (h : 1 ≤ N) => law_is_at ja 0 5000 (N := N) h m
      exact ⟨isF a 0 5000, by (intro N m hN; obtain ⟨j, rfl⟩ : ∃ j, N = j + 1 := ⟨N - 1, (by omega)⟩; have hj : 11 ≤ j := (by omega); have h13 : 13 ≤ j := (by omega); have h10 : 10 ≤ j := (by omega); have h2 : 2 ≤ j := (by omega); have h1 : 1 ≤ j := (by omega); rw [callN_eq (fn := F_is_row) rfl rfl]; simp [F_is_row, startT, run_cons, List.replicate, lim_eq, hj, h13, h10, h1, h2, sizes_t, most_c, deep_c, most_d, most_n, st_name, e1, e2]), by (intro N m k hN; obtain ⟨j, rfl⟩ : ∃ j, N = j + 1 := ⟨N - 1, (by omega)⟩; have hj : 11 ≤ j := (by omega); have h13 : 13 ≤ j := (by omega); have h10 : 10 ≤ j := (by omega); have h2 : 2 ≤ j := (by omega); have h1 : 1 ≤ j := (by omega); rw [callN_eq (fn := F__law_is_row) rfl rfl]; simp [F__law_is_row, startT, run_cons, List.replicate, lim_eq, hj, h13, h10, h1, h2, sizes_t, most_c, deep_c, most_d, most_n, st_name, e1, e2]), fun _ => ⟨_, _, rfl, by simp, by simp⟩⟩
    · exact ⟨false, by (intro N m hN; obtain ⟨j, rfl⟩ : ∃ j, N = j + 1 := ⟨N - 1, (by omega)⟩; have hj : 11 ≤ j := (by omega); have h13 : 13 ≤ j := (by omega); have h10 : 10 ≤ j := (by omega); have h2 : 2 ≤ j := (by omega); have h1 : 1 ≤ j := (by omega); rw [callN_eq (fn := F_is_row) rfl rfl]; simp [F_is_row, startT, run_cons, List.replicate, lim_eq, hj, h13, h10, h1, h2, sizes_t, most_c, deep_c, most_d, most_n, st_return]), by (intro N m k hN; obtain ⟨j, rfl⟩ : ∃ j, N = j + 1 := ⟨N - 1, (by omega)⟩; have hj : 11 ≤ j := (by omega); have h13 : 13 ≤ j := (by omega); have h10 : 10 ≤ j := (by omega); have h2 : 2 ≤ j := (by omega); have h1 : 1 ≤ j := (by omega); rw [callN_eq (fn := F__law_is_row) rfl rfl]; simp [F__law_is_row, startT, run_cons, List.replicate, lim_eq, hj, h13, h10, h1, h2, sizes_t, most_c, deep_c, most_d, most_n, st_return]), fun h => (by cases h)⟩
  · rcases hs with rfl | rfl | rfl | rfl | rfl | rfl | rfl | rfl | rfl | rfl | rfl | rfl | rfl | rfl | rfl
    · have hn := st_none "" (by simp)
      exact ⟨false, by (intro N m hN; obtain ⟨j, rfl⟩ : ∃ j, N = j + 1 := ⟨N - 1, (by omega)⟩; have hj : 11 ≤ j := (by omega); have h13 : 13 ≤ j := (by omega); have h10 : 10 ≤ j := (by omega); have h2 : 2 ≤ j := (by omega); have h1 : 1 ≤ j := (by omega); rw [callN_eq (fn := F_is_row) rfl rfl]; simp [F_is_row, startT, run_cons, List.replicate, lim_eq, hj, h13, h10, h1, h2, sizes_t, most_c, deep_c, most_d, most_n, hn]), by (intro N m k hN; obtain ⟨j, rfl⟩ : ∃ j, N = j + 1 := ⟨N - 1, (by omega)⟩; have hj : 11 ≤ j := (by omega); have h13 : 13 ≤ j := (by omega); have h10 : 10 ≤ j := (by omega); have h2 : 2 ≤ j := (by omega); have h1 : 1 ≤ j := (by omega); rw [callN_eq (fn := F__law_is_row) rfl rfl]; simp [F__law_is_row, startT, run_cons, List.replicate, lim_eq, hj, h13, h10, h1, h2, sizes_t, most_c, deep_c, most_d, most_n, hn]), fun h => (by cases h)⟩
    · have hn := st_none "fun" (by simp)
      exact ⟨false, by (intro N m hN; obtain ⟨j, rfl⟩ : ∃ j, N = j + 1 := ⟨N - 1, (by omega)⟩; have hj : 11 ≤ j := (by omega); have h13 : 13 ≤ j := (by omega); have h10 : 10 ≤ j := (by omega); have h2 : 2 ≤ j := (by omega); have h1 : 1 ≤ j := (by omega); rw [callN_eq (fn := F_is_row) rfl rfl]; simp [F_is_row, startT, run_cons, List.replicate, lim_eq, hj, h13, h10, h1, h2, sizes_t, most_c, deep_c, most_d, most_n, hn]), by (intro N m k hN; obtain ⟨j, rfl⟩ : ∃ j, N = j + 1 := ⟨N - 1, (by omega)⟩; have hj : 11 ≤ j := (by omega); have h13 : 13 ≤ j := (by omega); have h10 : 10 ≤ j := (by omega); have h2 : 2 ≤ j := (by omega); have h1 : 1 ≤ j := (by omega); rw [callN_eq (fn := F__law_is_row) rfl rfl]; simp [F__law_is_row, startT, run_cons, List.replicate, lim_eq, hj, h13, h10, h1, h2, sizes_t, most_c, deep_c, most_d, most_n, hn]), fun h => (by cases h)⟩
    · have hn := st_none "from" (by simp)
      exact ⟨false, by (intro N m hN; obtain ⟨j, rfl⟩ : ∃ j, N = j + 1 := ⟨N - 1, (by omega)⟩; have hj : 11 ≤ j := (by omega); have h13 : 13 ≤ j := (by omega); have h10 : 10 ≤ j := (by omega); have h2 : 2 ≤ j := (by omega); have h1 : 1 ≤ j := (by omega); rw [callN_eq (fn := F_is_row) rfl rfl]; simp [F_is_row, startT, run_cons, List.replicate, lim_eq, hj, h13, h10, h1, h2, sizes_t, most_c, deep_c, most_d, most_n, hn]), by (intro N m k hN; obtain ⟨j, rfl⟩ : ∃ j, N = j + 1 := ⟨N - 1, (by omega)⟩; have hj : 11 ≤ j := (by omega); have h13 : 13 ≤ j := (by omega); have h10 : 10 ≤ j := (by omega); have h2 : 2 ≤ j := (by omega); have h1 : 1 ≤ j := (by omega); rw [callN_eq (fn := F__law_is_row) rfl rfl]; simp [F__law_is_row, startT, run_cons, List.replicate, lim_eq, hj, h13, h10, h1, h2, sizes_t, most_c, deep_c, most_d, most_n, hn]), fun h => (by cases h)⟩
    · have hn := st_none "same" (by simp)
      exact ⟨false, by (intro N m hN; obtain ⟨j, rfl⟩ : ∃ j, N = j + 1 := ⟨N - 1, (by omega)⟩; have hj : 11 ≤ j := (by omega); have h13 : 13 ≤ j := (by omega); have h10 : 10 ≤ j := (by omega); have h2 : 2 ≤ j := (by omega); have h1 : 1 ≤ j := (by omega); rw [callN_eq (fn := F_is_row) rfl rfl]; simp [F_is_row, startT, run_cons, List.replicate, lim_eq, hj, h13, h10, h1, h2, sizes_t, most_c, deep_c, most_d, most_n, hn]), by (intro N m k hN; obtain ⟨j, rfl⟩ : ∃ j, N = j + 1 := ⟨N - 1, (by omega)⟩; have hj : 11 ≤ j := (by omega); have h13 : 13 ≤ j := (by omega); have h10 : 10 ≤ j := (by omega); have h2 : 2 ≤ j := (by omega); have h1 : 1 ≤ j := (by omega); rw [callN_eq (fn := F__law_is_row) rfl rfl]; simp [F__law_is_row, startT, run_cons, List.replicate, lim_eq, hj, h13, h10, h1, h2, sizes_t, most_c, deep_c, most_d, most_n, hn]), fun h => (by cases h)⟩
    · exact ⟨false, by (intro N m hN; obtain ⟨j, rfl⟩ : ∃ j, N = j + 1 := ⟨N - 1, (by omega)⟩; have hj : 11 ≤ j := (by omega); have h13 : 13 ≤ j := (by omega); have h10 : 10 ≤ j := (by omega); have h2 : 2 ≤ j := (by omega); have h1 : 1 ≤ j := (by omega); rw [callN_eq (fn := F_is_row) rfl rfl]; simp [F_is_row, startT, run_cons, List.replicate, lim_eq, hj, h13, h10, h1, h2, sizes_t, most_c, deep_c, most_d, most_n, st_coerce]), by (intro N m k hN; obtain ⟨j, rfl⟩ : ∃ j, N = j + 1 := ⟨N - 1, (by omega)⟩; have hj : 11 ≤ j := (by omega); have h13 : 13 ≤ j := (by omega); have h10 : 10 ≤ j := (by omega); have h2 : 2 ≤ j := (by omega); have h1 : 1 ≤ j := (by omega); rw [callN_eq (fn := F__law_is_row) rfl rfl]; simp [F__law_is_row, startT, run_cons, List.replicate, lim_eq, hj, h13, h10, h1, h2, sizes_t, most_c, deep_c, most_d, most_n, st_coerce]), fun h => (by cases h)⟩
    · have hn := st_none "blamed" (by simp)
      exact ⟨false, by (intro N m hN; obtain ⟨j, rfl⟩ : ∃ j, N = j + 1 := ⟨N - 1, (by omega)⟩; have hj : 11 ≤ j := (by omega); have h13 : 13 ≤ j := (by omega); have h10 : 10 ≤ j := (by omega); have h2 : 2 ≤ j := (by omega); have h1 : 1 ≤ j := (by omega); rw [callN_eq (fn := F_is_row) rfl rfl]; simp [F_is_row, startT, run_cons, List.replicate, lim_eq, hj, h13, h10, h1, h2, sizes_t, most_c, deep_c, most_d, most_n, hn]), by (intro N m k hN; obtain ⟨j, rfl⟩ : ∃ j, N = j + 1 := ⟨N - 1, (by omega)⟩; have hj : 11 ≤ j := (by omega); have h13 : 13 ≤ j := (by omega); have h10 : 10 ≤ j := (by omega); have h2 : 2 ≤ j := (by omega); have h1 : 1 ≤ j := (by omega); rw [callN_eq (fn := F__law_is_row) rfl rfl]; simp [F__law_is_row, startT, run_cons, List.replicate, lim_eq, hj, h13, h10, h1, h2, sizes_t, most_c, deep_c, most_d, most_n, hn]), fun h => (by cases h)⟩
    · have hn := st_none "parts" (by simp)
      exact ⟨false, by (intro N m hN; obtain ⟨j, rfl⟩ : ∃ j, N = j + 1 := ⟨N - 1, (by omega)⟩; have hj : 11 ≤ j := (by omega); have h13 : 13 ≤ j := (by omega); have h10 : 10 ≤ j := (by omega); have h2 : 2 ≤ j := (by omega); have h1 : 1 ≤ j := (by omega); rw [callN_eq (fn := F_is_row) rfl rfl]; simp [F_is_row, startT, run_cons, List.replicate, lim_eq, hj, h13, h10, h1, h2, sizes_t, most_c, deep_c, most_d, most_n, hn]), by (intro N m k hN; obtain ⟨j, rfl⟩ : ∃ j, N = j + 1 := ⟨N - 1, (by omega)⟩; have hj : 11 ≤ j := (by omega); have h13 : 13 ≤ j := (by omega); have h10 : 10 ≤ j := (by omega); have h2 : 2 ≤ j := (by omega); have h1 : 1 ≤ j := (by omega); rw [callN_eq (fn := F__law_is_row) rfl rfl]; simp [F__law_is_row, startT, run_cons, List.replicate, lim_eq, hj, h13, h10, h1, h2, sizes_t, most_c, deep_c, most_d, most_n, hn]), fun h => (by cases h)⟩
    · have hn := st_none "never" (by simp)
      exact ⟨false, by (intro N m hN; obtain ⟨j, rfl⟩ : ∃ j, N = j + 1 := ⟨N - 1, (by omega)⟩; have hj : 11 ≤ j := (by omega); have h13 : 13 ≤ j := (by omega); have h10 : 10 ≤ j := (by omega); have h2 : 2 ≤ j := (by omega); have h1 : 1 ≤ j := (by omega); rw [callN_eq (fn := F_is_row) rfl rfl]; simp [F_is_row, startT, run_cons, List.replicate, lim_eq, hj, h13, h10, h1, h2, sizes_t, most_c, deep_c, most_d, most_n, hn]), by (intro N m k hN; obtain ⟨j, rfl⟩ : ∃ j, N = j + 1 := ⟨N - 1, (by omega)⟩; have hj : 11 ≤ j := (by omega); have h13 : 13 ≤ j := (by omega); have h10 : 10 ≤ j := (by omega); have h2 : 2 ≤ j := (by omega); have h1 : 1 ≤ j := (by omega); rw [callN_eq (fn := F__law_is_row) rfl rfl]; simp [F__law_is_row, startT, run_cons, List.replicate, lim_eq, hj, h13, h10, h1, h2, sizes_t, most_c, deep_c, most_d, most_n, hn]), fun h => (by cases h)⟩
    · have hn := st_none "alike" (by simp)
      exact ⟨false, by (intro N m hN; obtain ⟨j, rfl⟩ : ∃ j, N = j + 1 := ⟨N - 1, (by omega)⟩; have hj : 11 ≤ j := (by omega); have h13 : 13 ≤ j := (by omega); have h10 : 10 ≤ j := (by omega); have h2 : 2 ≤ j := (by omega); have h1 : 1 ≤ j := (by omega); rw [callN_eq (fn := F_is_row) rfl rfl]; simp [F_is_row, startT, run_cons, List.replicate, lim_eq, hj, h13, h10, h1, h2, sizes_t, most_c, deep_c, most_d, most_n, hn]), by (intro N m k hN; obtain ⟨j, rfl⟩ : ∃ j, N = j + 1 := ⟨N - 1, (by omega)⟩; have hj : 11 ≤ j := (by omega); have h13 : 13 ≤ j := (by omega); have h10 : 10 ≤ j := (by omega); have h2 : 2 ≤ j := (by omega); have h1 : 1 ≤ j := (by omega); rw [callN_eq (fn := F__law_is_row) rfl rfl]; simp [F__law_is_row, startT, run_cons, List.replicate, lim_eq, hj, h13, h10, h1, h2, sizes_t, most_c, deep_c, most_d, most_n, hn]), fun h => (by cases h)⟩
    · have hn := st_none "owed" (by simp)
      exact ⟨false, by (intro N m hN; obtain ⟨j, rfl⟩ : ∃ j, N = j + 1 := ⟨N - 1, (by omega)⟩; have hj : 11 ≤ j := (by omega); have h13 : 13 ≤ j := (by omega); have h10 : 10 ≤ j := (by omega); have h2 : 2 ≤ j := (by omega); have h1 : 1 ≤ j := (by omega); rw [callN_eq (fn := F_is_row) rfl rfl]; simp [F_is_row, startT, run_cons, List.replicate, lim_eq, hj, h13, h10, h1, h2, sizes_t, most_c, deep_c, most_d, most_n, hn]), by (intro N m k hN; obtain ⟨j, rfl⟩ : ∃ j, N = j + 1 := ⟨N - 1, (by omega)⟩; have hj : 11 ≤ j := (by omega); have h13 : 13 ≤ j := (by omega); have h10 : 10 ≤ j := (by omega); have h2 : 2 ≤ j := (by omega); have h1 : 1 ≤ j := (by omega); rw [callN_eq (fn := F__law_is_row) rfl rfl]; simp [F__law_is_row, startT, run_cons, List.replicate, lim_eq, hj, h13, h10, h1, h2, sizes_t, most_c, deep_c, most_d, most_n, hn]), fun h => (by cases h)⟩
    · have hn := st_none "passes" (by simp)
      exact ⟨false, by (intro N m hN; obtain ⟨j, rfl⟩ : ∃ j, N = j + 1 := ⟨N - 1, (by omega)⟩; have hj : 11 ≤ j := (by omega); have h13 : 13 ≤ j := (by omega); have h10 : 10 ≤ j := (by omega); have h2 : 2 ≤ j := (by omega); have h1 : 1 ≤ j := (by omega); rw [callN_eq (fn := F_is_row) rfl rfl]; simp [F_is_row, startT, run_cons, List.replicate, lim_eq, hj, h13, h10, h1, h2, sizes_t, most_c, deep_c, most_d, most_n, hn]), by (intro N m k hN; obtain ⟨j, rfl⟩ : ∃ j, N = j + 1 := ⟨N - 1, (by omega)⟩; have hj : 11 ≤ j := (by omega); have h13 : 13 ≤ j := (by omega); have h10 : 10 ≤ j := (by omega); have h2 : 2 ≤ j := (by omega); have h1 : 1 ≤ j := (by omega); rw [callN_eq (fn := F__law_is_row) rfl rfl]; simp [F__law_is_row, startT, run_cons, List.replicate, lim_eq, hj, h13, h10, h1, h2, sizes_t, most_c, deep_c, most_d, most_n, hn]), fun h => (by cases h)⟩
    · have hn := st_none "to" (by simp)
      exact ⟨false, by (intro N m hN; obtain ⟨j, rfl⟩ : ∃ j, N = j + 1 := ⟨N - 1, (by omega)⟩; have hj : 11 ≤ j := (by omega); have h13 : 13 ≤ j := (by omega); have h10 : 10 ≤ j := (by omega); have h2 : 2 ≤ j := (by omega); have h1 : 1 ≤ j := (by omega); rw [callN_eq (fn := F_is_row) rfl rfl]; simp [F_is_row, startT, run_cons, List.replicate, lim_eq, hj, h13, h10, h1, h2, sizes_t, most_c, deep_c, most_d, most_n, hn]), by (intro N m k hN; obtain ⟨j, rfl⟩ : ∃ j, N = j + 1 := ⟨N - 1, (by omega)⟩; have hj : 11 ≤ j := (by omega); have h13 : 13 ≤ j := (by omega); have h10 : 10 ≤ j := (by omega); have h2 : 2 ≤ j := (by omega); have h1 : 1 ≤ j := (by omega); rw [callN_eq (fn := F__law_is_row) rfl rfl]; simp [F__law_is_row, startT, run_cons, List.replicate, lim_eq, hj, h13, h10, h1, h2, sizes_t, most_c, deep_c, most_d, most_n, hn]), fun h => (by cases h)⟩
    · exact ⟨false, by (intro N m hN; obtain ⟨j, rfl⟩ : ∃ j, N = j + 1 := ⟨N - 1, (by omega)⟩; have hj : 11 ≤ j := (by omega); have h13 : 13 ≤ j := (by omega); have h10 : 10 ≤ j := (by omega); have h2 : 2 ≤ j := (by omega); have h1 : 1 ≤ j := (by omega); rw [callN_eq (fn := F_is_row) rfl rfl]; simp [F_is_row, startT, run_cons, List.replicate, lim_eq, hj, h13, h10, h1, h2, sizes_t, most_c, deep_c, most_d, most_n, st_later]), by (intro N m k hN; obtain ⟨j, rfl⟩ : ∃ j, N = j + 1 := ⟨N - 1, (by omega)⟩; have hj : 11 ≤ j := (by omega); have h13 : 13 ≤ j := (by omega); have h10 : 10 ≤ j := (by omega); have h2 : 2 ≤ j := (by omega); have h1 : 1 ≤ j := (by omega); rw [callN_eq (fn := F__law_is_row) rfl rfl]; simp [F__law_is_row, startT, run_cons, List.replicate, lim_eq, hj, h13, h10, h1, h2, sizes_t, most_c, deep_c, most_d, most_n, st_later]), fun h => (by cases h)⟩
    · exact ⟨false, by (intro N m hN; obtain ⟨j, rfl⟩ : ∃ j, N = j + 1 := ⟨N - 1, (by omega)⟩; have hj : 11 ≤ j := (by omega); have h13 : 13 ≤ j := (by omega); have h10 : 10 ≤ j := (by omega); have h2 : 2 ≤ j := (by omega); have h1 : 1 ≤ j := (by omega); rw [callN_eq (fn := F_is_row) rfl rfl]; simp [F_is_row, startT, run_cons, List.replicate, lim_eq, hj, h13, h10, h1, h2, sizes_t, most_c, deep_c, most_d, most_n, st_name]), by (intro N m k hN; obtain ⟨j, rfl⟩ : ∃ j, N = j + 1 := ⟨N - 1, (by omega)⟩; have hj : 11 ≤ j := (by omega); have h13 : 13 ≤ j := (by omega); have h10 : 10 ≤ j := (by omega); have h2 : 2 ≤ j := (by omega); have h1 : 1 ≤ j := (by omega); rw [callN_eq (fn := F__law_is_row) rfl rfl]; simp [F__law_is_row, startT, run_cons, List.replicate, lim_eq, hj, h13, h10, h1, h2, sizes_t, most_c, deep_c, most_d, most_n, st_name]), fun h => (by cases h)⟩
    · exact ⟨false, by (intro N m hN; obtain ⟨j, rfl⟩ : ∃ j, N = j + 1 := ⟨N - 1, (by omega)⟩; have hj : 11 ≤ j := (by omega); have h13 : 13 ≤ j := (by omega); have h10 : 10 ≤ j := (by omega); have h2 : 2 ≤ j := (by omega); have h1 : 1 ≤ j := (by omega); rw [callN_eq (fn := F_is_row) rfl rfl]; simp [F_is_row, startT, run_cons, List.replicate, lim_eq, hj, h13, h10, h1, h2, sizes_t, most_c, deep_c, most_d, most_n, st_return]), by (intro N m k hN; obtain ⟨j, rfl⟩ : ∃ j, N = j + 1 := ⟨N - 1, (by omega)⟩; have hj : 11 ≤ j := (by omega); have h13 : 13 ≤ j := (by omega); have h10 : 10 ≤ j := (by omega); have h2 : 2 ≤ j := (by omega); have h1 : 1 ≤ j := (by omega); rw [callN_eq (fn := F__law_is_row) rfl rfl]; simp [F__law_is_row, startT, run_cons, List.replicate, lim_eq, hj, h13, h10, h1, h2, sizes_t, most_c, deep_c, most_d, most_n, st_return]), fun h => (by cases h)⟩
theorem row_at {d : D} (h : jk L1 6 d = true) : Row d := by
  by_cases hd : ∃ xs, d = .tup xs
  · obtain ⟨xs, rfl⟩ := hd
    rw [jk_tup, Bool.and_eq_true, decide_eq_true_eq] at h
    obtain ⟨hl, hx⟩ := h
    cases xs with
    | nil => exact row_ff (.inr (.inl rfl))
    | cons w t =>
      rw [jks_cons, Bool.and_eq_true] at hx
      simp only [List.length_cons] at hl
      by_cases hs : ∃ s, w = .str s
      · obtain ⟨s, rfl⟩ := hs
        refine row_str ?_ (by omega) hx.2
        have := hx.1
        simp only [jk] at this
        exact List.contains_iff_mem.mp this
      · exact row_ff (.inr (.inr ⟨w, t, rfl, by omega, not_str hx.1 fun s e => hs ⟨s, e⟩⟩))
  · exact row_ff (.inl (not_tup h fun xs e => hd ⟨xs, e⟩))
theorem rw_no {s : String} (h : s ∈ RW) : cmpEv .in_ (.str s) (.tup [.str "fn", .str "rec", .str "unless", .str "jump"]) = some (.bl false) := by
  simp only [RW, List.mem_cons, List.not_mem_nil, or_false] at h
  rcases h with rfl | rfl | rfl | rfl <;> rfl
/-- both say the same of what is no code, and of code -/
def Code (d : D) : Prop := ∃ b, (∀ N m, 16 ≤ N → callN G N "is_code" [d] m = .ok (.val (.bl b)) m) ∧ ∀ N m, 16 ≤ N → callN G N "_law_is_code" [d] m = .ok (.val (.bl b)) m
theorem code_at {d : D} (h : Odd d) : Code d := by
  rcases h.ok with ⟨h1, _⟩ | ⟨h1, _⟩
  · exact ⟨false, by (intro N m hN; obtain ⟨j, rfl⟩ : ∃ j, N = j + 1 := ⟨N - 1, (by omega)⟩; have hj : 14 ≤ j := (by omega); rw [callN_eq (fn := F_is_code) rfl rfl]; simp [F_is_code, startT, run_cons, List.replicate, lim_eq, lc_cons, hj, most_c, -in_s4, h1]), by (intro N m hN; obtain ⟨j, rfl⟩ : ∃ j, N = j + 1 := ⟨N - 1, (by omega)⟩; have hj : 14 ≤ j := (by omega); rw [callN_eq (fn := F__law_is_code) rfl rfl]; simp [F__law_is_code, startT, run_cons, List.replicate, lim_eq, lc_cons, hj, most_c, -in_s4, h1])⟩
  · by_cases hd : ∃ xs, d = .tup xs
    · obtain ⟨xs, rfl⟩ := hd
      rw [jk_tup, Bool.and_eq_true, decide_eq_true_eq] at h1
      obtain ⟨hl, hx⟩ := h1
      match xs, hl, hx with
      | [], _, _ => exact ⟨false, by (intro N m hN; obtain ⟨j, rfl⟩ : ∃ j, N = j + 1 := ⟨N - 1, (by omega)⟩; have hj : 14 ≤ j := (by omega); rw [callN_eq (fn := F_is_code) rfl rfl]; simp [F_is_code, startT, run_cons, List.replicate, lim_eq, lc_cons, hj, most_c, -in_s4]), by (intro N m hN; obtain ⟨j, rfl⟩ : ∃ j, N = j + 1 := ⟨N - 1, (by omega)⟩; have hj : 14 ≤ j := (by omega); rw [callN_eq (fn := F__law_is_code) rfl rfl]; simp [F__law_is_code, startT, run_cons, List.replicate, lim_eq, lc_cons, hj, most_c, -in_s4])⟩
      | [a], _, hx =>
        simp only [jks_cons, Bool.and_eq_true] at hx
        obtain ⟨b0, e0, f0, g0⟩ := row_at hx.1
        cases b0 with
        | false =>
          exact ⟨false, by (intro N m hN; obtain ⟨j, rfl⟩ : ∃ j, N = j + 1 := ⟨N - 1, (by omega)⟩; have hj : 14 ≤ j := (by omega); rw [callN_eq (fn := F_is_code) rfl rfl]; simp [F_is_code, startT, run_cons, List.replicate, lim_eq, lc_cons, hj, most_c, -in_s4, e0, f0]), by (intro N m hN; obtain ⟨j, rfl⟩ : ∃ j, N = j + 1 := ⟨N - 1, (by omega)⟩; have hj : 14 ≤ j := (by omega); rw [callN_eq (fn := F__law_is_code) rfl rfl]; simp [F__law_is_code, startT, run_cons, List.replicate, lim_eq, lc_cons, hj, most_c, -in_s4, e0, f0])⟩
        | true =>
          obtain ⟨s0, t0, rfl, l0, m0⟩ := g0 rfl
          have n0 := rw_no m0
          have q0 : t0.length ≤ 999999 := by omega
          exact ⟨true, by (intro N m hN; obtain ⟨j, rfl⟩ : ∃ j, N = j + 1 := ⟨N - 1, (by omega)⟩; have hj : 14 ≤ j := (by omega); rw [callN_eq (fn := F_is_code) rfl rfl]; simp [F_is_code, startT, run_cons, List.replicate, lim_eq, lc_cons, hj, most_c, -in_s4, e0, f0, n0, q0]), by (intro N m hN; obtain ⟨j, rfl⟩ : ∃ j, N = j + 1 := ⟨N - 1, (by omega)⟩; have hj : 14 ≤ j := (by omega); rw [callN_eq (fn := F__law_is_code) rfl rfl]; simp [F__law_is_code, startT, run_cons, List.replicate, lim_eq, lc_cons, hj, most_c, -in_s4, e0, f0, n0, q0])⟩
      | [a, b], _, hx =>
        simp only [jks_cons, Bool.and_eq_true] at hx
        obtain ⟨b0, e0, f0, g0⟩ := row_at hx.1
        obtain ⟨b1, e1, f1, g1⟩ := row_at hx.2.1
        cases b0 with
        | false =>
          cases b1 with
          | false =>
            exact ⟨false, by (intro N m hN; obtain ⟨j, rfl⟩ : ∃ j, N = j + 1 := ⟨N - 1, (by omega)⟩; have hj : 14 ≤ j := (by omega); rw [callN_eq (fn := F_is_code) rfl rfl]; simp [F_is_code, startT, run_cons, List.replicate, lim_eq, lc_cons, hj, most_c, -in_s4, e0, f0, e1, f1]), by (intro N m hN; obtain ⟨j, rfl⟩ : ∃ j, N = j + 1 := ⟨N - 1, (by omega)⟩; have hj : 14 ≤ j := (by omega); rw [callN_eq (fn := F__law_is_code) rfl rfl]; simp [F__law_is_code, startT, run_cons, List.replicate, lim_eq, lc_cons, hj, most_c, -in_s4, e0, f0, e1, f1])⟩
          | true =>
            exact ⟨false, by (intro N m hN; obtain ⟨j, rfl⟩ : ∃ j, N = j + 1 := ⟨N - 1, (by omega)⟩; have hj : 14 ≤ j := (by omega); rw [callN_eq (fn := F_is_code) rfl rfl]; simp [F_is_code, startT, run_cons, List.replicate, lim_eq, lc_cons, hj, most_c, -in_s4, e0, f0, e1, f1]), by (intro N m hN; obtain ⟨j, rfl⟩ : ∃ j, N = j + 1 := ⟨N - 1, (by omega)⟩; have hj : 14 ≤ j := (by omega); rw [callN_eq (fn := F__law_is_code) rfl rfl]; simp [F__law_is_code, startT, run_cons, List.replicate, lim_eq, lc_cons, hj, most_c, -in_s4, e0, f0, e1, f1])⟩
        | true =>
          cases b1 with
          | false =>
            exact ⟨false, by (intro N m hN; obtain ⟨j, rfl⟩ : ∃ j, N = j + 1 := ⟨N - 1, (by omega)⟩; have hj : 14 ≤ j := (by omega); rw [callN_eq (fn := F_is_code) rfl rfl]; simp [F_is_code, startT, run_cons, List.replicate, lim_eq, lc_cons, hj, most_c, -in_s4, e0, f0, e1, f1]), by (intro N m hN; obtain ⟨j, rfl⟩ : ∃ j, N = j + 1 := ⟨N - 1, (by omega)⟩; have hj : 14 ≤ j := (by omega); rw [callN_eq (fn := F__law_is_code) rfl rfl]; simp [F__law_is_code, startT, run_cons, List.replicate, lim_eq, lc_cons, hj, most_c, -in_s4, e0, f0, e1, f1])⟩
          | true =>
            obtain ⟨s0, t0, rfl, l0, m0⟩ := g0 rfl
            have n0 := rw_no m0
            have q0 : t0.length ≤ 999999 := by omega
            obtain ⟨s1, t1, rfl, l1, m1⟩ := g1 rfl
            have n1 := rw_no m1
            have q1 : t1.length ≤ 999999 := by omega
            exact ⟨true, by (intro N m hN; obtain ⟨j, rfl⟩ : ∃ j, N = j + 1 := ⟨N - 1, (by omega)⟩; have hj : 14 ≤ j := (by omega); rw [callN_eq (fn := F_is_code) rfl rfl]; simp [F_is_code, startT, run_cons, List.replicate, lim_eq, lc_cons, hj, most_c, -in_s4, e0, f0, e1, f1, n0, q0, n1, q1]), by (intro N m hN; obtain ⟨j, rfl⟩ : ∃ j, N = j + 1 := ⟨N - 1, (by omega)⟩; have hj : 14 ≤ j := (by omega); rw [callN_eq (fn := F__law_is_code) rfl rfl]; simp [F__law_is_code, startT, run_cons, List.replicate, lim_eq, lc_cons, hj, most_c, -in_s4, e0, f0, e1, f1, n0, q0, n1, q1])⟩
      | [a, b, c], _, hx =>
        simp only [jks_cons, Bool.and_eq_true] at hx
        obtain ⟨b0, e0, f0, g0⟩ := row_at hx.1
        obtain ⟨b1, e1, f1, g1⟩ := row_at hx.2.1
        obtain ⟨b2, e2, f2, g2⟩ := row_at hx.2.2.1
        cases b0 with
        | false =>
          cases b1 with
          | false =>
            cases b2 with
            | false =>
              exact ⟨false, by (intro N m hN; obtain ⟨j, rfl⟩ : ∃ j, N = j + 1 := ⟨N - 1, (by omega)⟩; have hj : 14 ≤ j := (by omega); rw [callN_eq (fn := F_is_code) rfl rfl]; simp [F_is_code, startT, run_cons, List.replicate, lim_eq, lc_cons, hj, most_c, -in_s4, e0, f0, e1, f1, e2, f2]), by (intro N m hN; obtain ⟨j, rfl⟩ : ∃ j, N = j + 1 := ⟨N - 1, (by omega)⟩; have hj : 14 ≤ j := (by omega); rw [callN_eq (fn := F__law_is_code) rfl rfl]; simp [F__law_is_code, startT, run_cons, List.replicate, lim_eq, lc_cons, hj, most_c, -in_s4, e0, f0, e1, f1, e2, f2])⟩
            | true =>
              exact ⟨false, by (intro N m hN; obtain ⟨j, rfl⟩ : ∃ j, N = j + 1 := ⟨N - 1, (by omega)⟩; have hj : 14 ≤ j := (by omega); rw [callN_eq (fn := F_is_code) rfl rfl]; simp [F_is_code, startT, run_cons, List.replicate, lim_eq, lc_cons, hj, most_c, -in_s4, e0, f0, e1, f1, e2, f2]), by (intro N m hN; obtain ⟨j, rfl⟩ : ∃ j, N = j + 1 := ⟨N - 1, (by omega)⟩; have hj : 14 ≤ j := (by omega); rw [callN_eq (fn := F__law_is_code) rfl rfl]; simp [F__law_is_code, startT, run_cons, List.replicate, lim_eq, lc_cons, hj, most_c, -in_s4, e0, f0, e1, f1, e2, f2])⟩
          | true =>
            cases b2 with
            | false =>
              exact ⟨false, by (intro N m hN; obtain ⟨j, rfl⟩ : ∃ j, N = j + 1 := ⟨N - 1, (by omega)⟩; have hj : 14 ≤ j := (by omega); rw [callN_eq (fn := F_is_code) rfl rfl]; simp [F_is_code, startT, run_cons, List.replicate, lim_eq, lc_cons, hj, most_c, -in_s4, e0, f0, e1, f1, e2, f2]), by (intro N m hN; obtain ⟨j, rfl⟩ : ∃ j, N = j + 1 := ⟨N - 1, (by omega)⟩; have hj : 14 ≤ j := (by omega); rw [callN_eq (fn := F__law_is_code) rfl rfl]; simp [F__law_is_code, startT, run_cons, List.replicate, lim_eq, lc_cons, hj, most_c, -in_s4, e0, f0, e1, f1, e2, f2])⟩
            | true =>
              exact ⟨false, by (intro N m hN; obtain ⟨j, rfl⟩ : ∃ j, N = j + 1 := ⟨N - 1, (by omega)⟩; have hj : 14 ≤ j := (by omega); rw [callN_eq (fn := F_is_code) rfl rfl]; simp [F_is_code, startT, run_cons, List.replicate, lim_eq, lc_cons, hj, most_c, -in_s4, e0, f0, e1, f1, e2, f2]), by (intro N m hN; obtain ⟨j, rfl⟩ : ∃ j, N = j + 1 := ⟨N - 1, (by omega)⟩; have hj : 14 ≤ j := (by omega); rw [callN_eq (fn := F__law_is_code) rfl rfl]; simp [F__law_is_code, startT, run_cons, List.replicate, lim_eq, lc_cons, hj, most_c, -in_s4, e0, f0, e1, f1, e2, f2])⟩
        | true =>
          cases b1 with
          | false =>
            cases b2 with
            | false =>
              exact ⟨false, by (intro N m hN; obtain ⟨j, rfl⟩ : ∃ j, N = j + 1 := ⟨N - 1, (by omega)⟩; have hj : 14 ≤ j := (by omega); rw [callN_eq (fn := F_is_code) rfl rfl]; simp [F_is_code, startT, run_cons, List.replicate, lim_eq, lc_cons, hj, most_c, -in_s4, e0, f0, e1, f1, e2, f2]), by (intro N m hN; obtain ⟨j, rfl⟩ : ∃ j, N = j + 1 := ⟨N - 1, (by omega)⟩; have hj : 14 ≤ j := (by omega); rw [callN_eq (fn := F__law_is_code) rfl rfl]; simp [F__law_is_code, startT, run_cons, List.replicate, lim_eq, lc_cons, hj, most_c, -in_s4, e0, f0, e1, f1, e2, f2])⟩
            | true =>
              exact ⟨false, by (intro N m hN; obtain ⟨j, rfl⟩ : ∃ j, N = j + 1 := ⟨N - 1, (by omega)⟩; have hj : 14 ≤ j := (by omega); rw [callN_eq (fn := F_is_code) rfl rfl]; simp [F_is_code, startT, run_cons, List.replicate, lim_eq, lc_cons, hj, most_c, -in_s4, e0, f0, e1, f1, e2, f2]), by (intro N m hN; obtain ⟨j, rfl⟩ : ∃ j, N = j + 1 := ⟨N - 1, (by omega)⟩; have hj : 14 ≤ j := (by omega); rw [callN_eq (fn := F__law_is_code) rfl rfl]; simp [F__law_is_code, startT, run_cons, List.replicate, lim_eq, lc_cons, hj, most_c, -in_s4, e0, f0, e1, f1, e2, f2])⟩
          | true =>
            cases b2 with
            | false =>
              exact ⟨false, by (intro N m hN; obtain ⟨j, rfl⟩ : ∃ j, N = j + 1 := ⟨N - 1, (by omega)⟩; have hj : 14 ≤ j := (by omega); rw [callN_eq (fn := F_is_code) rfl rfl]; simp [F_is_code, startT, run_cons, List.replicate, lim_eq, lc_cons, hj, most_c, -in_s4, e0, f0, e1, f1, e2, f2]), by (intro N m hN; obtain ⟨j, rfl⟩ : ∃ j, N = j + 1 := ⟨N - 1, (by omega)⟩; have hj : 14 ≤ j := (by omega); rw [callN_eq (fn := F__law_is_code) rfl rfl]; simp [F__law_is_code, startT, run_cons, List.replicate, lim_eq, lc_cons, hj, most_c, -in_s4, e0, f0, e1, f1, e2, f2])⟩
            | true =>
              obtain ⟨s0, t0, rfl, l0, m0⟩ := g0 rfl
              have n0 := rw_no m0
              have q0 : t0.length ≤ 999999 := by omega
              obtain ⟨s1, t1, rfl, l1, m1⟩ := g1 rfl
              have n1 := rw_no m1
              have q1 : t1.length ≤ 999999 := by omega
              obtain ⟨s2, t2, rfl, l2, m2⟩ := g2 rfl
              have n2 := rw_no m2
              have q2 : t2.length ≤ 999999 := by omega
              exact ⟨true, by (intro N m hN; obtain ⟨j, rfl⟩ : ∃ j, N = j + 1 := ⟨N - 1, (by omega)⟩; have hj : 14 ≤ j := (by omega); rw [callN_eq (fn := F_is_code) rfl rfl]; simp [F_is_code, startT, run_cons, List.replicate, lim_eq, lc_cons, hj, most_c, -in_s4, e0, f0, e1, f1, e2, f2, n0, q0, n1, q1, n2, q2]), by (intro N m hN; obtain ⟨j, rfl⟩ : ∃ j, N = j + 1 := ⟨N - 1, (by omega)⟩; have hj : 14 ≤ j := (by omega); rw [callN_eq (fn := F__law_is_code) rfl rfl]; simp [F__law_is_code, startT, run_cons, List.replicate, lim_eq, lc_cons, hj, most_c, -in_s4, e0, f0, e1, f1, e2, f2, n0, q0, n1, q1, n2, q2])⟩
      | _ :: _ :: _ :: _ :: _, hl, _ => simp at hl
    · have hi := not_tup h1 fun xs e => hd ⟨xs, e⟩
      exact ⟨false, by (intro N m hN; obtain ⟨j, rfl⟩ : ∃ j, N = j + 1 := ⟨N - 1, (by omega)⟩; have hj : 14 ≤ j := (by omega); rw [callN_eq (fn := F_is_code) rfl rfl]; simp [F_is_code, startT, run_cons, List.replicate, lim_eq, lc_cons, hj, most_c, -in_s4, hi]), by (intro N m hN; obtain ⟨j, rfl⟩ : ∃ j, N = j + 1 := ⟨N - 1, (by omega)⟩; have hj : 14 ≤ j := (by omega); rw [callN_eq (fn := F__law_is_code) rfl rfl]; simp [F__law_is_code, startT, run_cons, List.replicate, lim_eq, lc_cons, hj, most_c, -in_s4, hi])⟩
end P3.K91
set_option Elab.async false
set_option linter.all false
set_option maxRecDepth 100000
set_option maxHeartbeats 0
/-! W91: k91: drawn junk -/
namespace P3.K91
open PySem L2
noncomputable abbrev C : Call := callN G 99
abbrev L : Option Slot := some (.val (.loc 0))
abbrev V (k : Kd) : Option Slot := some (.val k.d)
abbrev X (d : D) : Option Slot := some (.val d)
/-! ### junk that is drawn -/
theorem jks_all {S : List String} {n : Nat} : ∀ {xs : List D}, (∀ x ∈ xs, jk S n x = true) → jks S n xs = true
  | [], _ => by cases n <;> rfl
  | x :: xs, h => by rw [jks_cons, h x List.mem_cons_self, jks_all fun y hy => h y (List.mem_cons_of_mem _ hy)]; rfl
theorem jk_up {S S' : List String} (hS : ∀ s ∈ S, s ∈ S') : ∀ (n m : Nat) (d : D), n ≤ m → jk S n d = true → jk S' m d = true := by
  intro n
  induction n with
  | zero =>
    intro m d _ h
    cases d <;> first | (simp [jk] at h; done) | (cases m <;> rfl) | skip
    rename_i s
    have : s ∈ S := by simp only [jk] at h; exact List.contains_iff_mem.mp h
    have := List.contains_iff_mem.mpr (hS s this)
    cases m <;> exact this
  | succ n ih =>
    intro m d hm h
    obtain ⟨m, rfl⟩ : ∃ k, m = k + 1 := ⟨m - 1, by omega⟩
    have ihs : ∀ xs : List D, jks S n xs = true → jks S' m xs = true := by
      intro xs
      induction xs with
      | nil => intro _; cases m <;> rfl
      | cons x xs ix =>
        intro h
        rw [jks_cons, Bool.and_eq_true] at h
        rw [jks_cons, ih m x (by omega) h.1, ix h.2]; rfl
    cases d with
    | tup xs =>
      rw [jk_tup, Bool.and_eq_true] at h ⊢
      exact ⟨h.1, ihs xs h.2⟩
    | fl xs =>
      rw [jk_fl, Bool.and_eq_true] at h ⊢
      exact ⟨h.1, ihs xs h.2⟩
    | str s => exact List.contains_iff_mem.mpr (hS s (List.contains_iff_mem.mp h))
    | fd _ => simp [jk] at h
    | loc _ => simp [jk] at h
    | fn _ => simp [jk] at h
    | _ => rfl
abbrev leaves : List D := [.non, .bl true, .bl false, .int 0, .int (-1), .int 1000000000000000000000, .str "", .str "fun", .str "from", .str "same", .tup [], .fl [], .str "coerce", .str "blamed"]
def E_rows : ME := .lc (.call "_law_junk" (.cons (.var 0) (.cons (.bin .sub (.var 1) (.int 1)) .nil))) (.name 4) (.range1 (.call "_law_draw" (.cons (.var 0) (.cons (.int 4) .nil)))) .nil [("k", 4)]
theorem junk_ex : ∀ (k : Nat) {N : Nat}, k + 3 ≤ N → ∀ {p : Pool}, p.Ok → ∃ (d : D) (q : Pool), q.Ok ∧ jk L0 (k + 1) d = true ∧ callN G N "_law_junk" [.loc 0, .int k] p.m = .ok (.val d) q.m := by
  intro k
  have hF : F__law_junk = ⟨2, ["pool", "deep", "way", "rows", "k"],
   (.cons (.set 2 (.call "_law_draw" (.cons (.var 0) (.cons (.int 14) .nil))))
   (.cons (.iff (.and (.cmp .gt (.var 1) (.int 0)) (.one (.cmp .lt (.var 2) (.int 6)))) (.cons (.set 3 E_rows)
   (.cons (.freeze 3)
   (.cons (.ret (.ife (.cmp .lt (.var 2) (.int 4)) (.blt .tuple (.var 3)) (.var 3)))
   .nil))) .nil)
   (.cons (.ret (.idx (.lst (.cons .non (.cons (.bl true) (.cons (.bl false) (.cons (.int 0) (.cons (.neg 1) (.cons (.int 1000000000000000000000) (.cons (.str "") (.cons (.str "fun") (.cons (.str "from") (.cons (.str "same") (.cons (.tup .nil) (.cons (.lst .nil) (.cons (.str "coerce") (.cons (.str "blamed") .nil))))))))))))))) (.var 2)))
   .nil)))⟩ := rfl
  have leaf : ∀ (k j : Nat) (w : Int) (q : Pool), 0 ≤ w → w < 14 → ∃ d : D, jk L0 (k + 1) d = true ∧ idxEv (.fl leaves) (.int w) = some d := by
    intro k j w q h0 h1
    have h2 : w = 0 ∨ w = 1 ∨ w = 2 ∨ w = 3 ∨ w = 4 ∨ w = 5 ∨ w = 6 ∨ w = 7 ∨ w = 8 ∨ w = 9 ∨ w = 10 ∨ w = 11 ∨ w = 12 ∨ w = 13 := by omega
    rcases h2 with rfl | rfl | rfl | rfl | rfl | rfl | rfl | rfl | rfl | rfl | rfl | rfl | rfl | rfl
    all_goals first | exact ⟨_, rfl, rfl⟩ | (refine ⟨_, ?_, rfl⟩; cases k <;> rfl)
  induction k with
  | zero =>
    intro N hN p hp
    obtain ⟨j, rfl⟩ : ∃ j, N = j + 1 := ⟨N - 1, by omega⟩
    obtain ⟨w, q, o, w0, w1, e⟩ := draw_ex hd (n := j) (by omega) hp (k := 14) (by omega) (by omega)
    obtain ⟨d, hd1, hd2⟩ := leaf 0 j w q w0 w1
    refine ⟨d, q, o, hd1, ?_⟩
    rw [callN_eq (fn := F__law_junk) rfl rfl, hF]
    simp [startT, run_cons, List.replicate, lim_eq, e, -idx_fl, hd2]
  | succ k ih =>
    intro N hN p hp
    obtain ⟨j, rfl⟩ : ∃ j, N = j + 1 := ⟨N - 1, by omega⟩
    obtain ⟨w, q, o, w0, w1, e⟩ := draw_ex hd (n := j) (by omega) hp (k := 14) (by omega) (by omega)
    have hk : (0 : Int) < ((k + 1 : Nat) : Int) := by omega
    have hk' : (0 : Int) < (k : Int) + 1 := by omega
    by_cases c : w < 6
    · obtain ⟨v, q1, o1, v0, v1, e1⟩ := draw_ex hd (n := j) (by omega) o (k := 4) (by omega) (by omega)
      have rows : ∀ (xs acc : List D) (q1 : Pool), q1.Ok → acc.length + xs.length ≤ 3 → (∀ x ∈ acc, jk L0 (k + 1) x = true) → ∃ (ds : List D) (q2 : Pool), q2.Ok ∧ ds.length ≤ 3 ∧ (∀ x ∈ ds, jk L0 (k + 1) x = true) ∧
          lcEv (tgEv (.name 4)) (fun _ m => .ok true m) (fun τ m => noexc (toV (evalE G.consts (callN G j) (.call "_law_junk" (.cons (.var 0) (.cons (.bin .sub (.var 1) (.int 1)) .nil))) τ m))) xs [L, X (.int ((k + 1 : Nat) : Int)), X (.int w), none, none] q1.m acc = .ok ds q2.m := by
        intro xs
        induction xs with
        | nil => intro acc q1 o1 hl ha; exact ⟨acc, q1, o1, by simpa using hl, ha, rfl⟩
        | cons x xs ix =>
          intro acc q1 o1 hl ha
          simp only [List.length_cons] at hl
          obtain ⟨d, q2, o2, hd1, e2⟩ := ih (N := j) (by omega) o1
          obtain ⟨ds, q3, o3, l3, a3, e3⟩ := ix (acc ++ [d]) q2 o2 (by simp only [List.length_append, List.length_cons, List.length_nil]; omega) (fun y hy => by
            rcases List.mem_append.mp hy with hy | hy
            · exact ha y hy
            · rw [List.mem_singleton.mp hy]; exact hd1)
          refine ⟨ds, q3, o3, l3, a3, ?_⟩
          rw [lc_cons]
          have s1 : ((k + 1 : Nat) : Int) - 1 = (k : Int) := by omega
          have hlt : acc.length < 1000000 := by omega
          have e4 : noexc (toV (evalE G.consts (callN G j) (.call "_law_junk" (.cons (.var 0) (.cons (.bin .sub (.var 1) (.int 1)) .nil))) [L, X (.int ((k + 1 : Nat) : Int)), X (.int w), none, X x] q1.m)) = .ok d q2.m := by
            simp only [ev_call, evs_cons, ev_var, ev_bin, evs_nil, pk_var, pk_int, ev_int]
            simp [-Int.natCast_add, s1, e2]
          show ((Out.ok true q1.m).bind fun b m1 => if b then ((noexc (toV (evalE G.consts (callN G j) (.call "_law_junk" (.cons (.var 0) (.cons (.bin .sub (.var 1) (.int 1)) .nil))) [L, X (.int ((k + 1 : Nat) : Int)), X (.int w), none, X x] m1))).bind fun d m2 => if acc.length < lim then _ else _) else _) = _
          rw [bind_ok, if_pos rfl, e4, bind_ok, if_pos (by rw [lim_eq]; omega)]
          exact e3
      obtain ⟨ds, q2, o2, hl, ha, e2⟩ := rows (rangeOf 0 v) [] q1 o1 (by rw [range_len]; simp; omega) (fun x hx => by cases hx)
      have e3 : evalE G.consts (callN G j) E_rows [L, X (.int ((k + 1 : Nat) : Int)), X (.int w), none, none] q.m = .ok (.own (.lst ds)) q2.m := by
        have hm : midInt v = true := by unfold midInt; simp; omega
        have hI : evalI G.consts (callN G j) (.range1 (.call "_law_draw" (.cons (.var 0) (.cons (.int 4) .nil)))) [L, X (.int ((k + 1 : Nat) : Int)), X (.int w), none, none] q.m = .ok (rangeOf 0 v) q1.m := by
          simp [e1, hm]
        unfold E_rows
        rw [ev_lc, hI, bind_ok, if_pos (by simp)]
        show (lcEv (tgEv (.name 4)) (fun _ m => .ok true m) _ (rangeOf 0 v) _ q1.m []).bind _ = _
        rw [show wipeT ([L, X (.int ((k + 1 : Nat) : Int)), X (.int w), none, none] : Tau) ([("k", 4)].map (·.2)) = [L, X (.int ((k + 1 : Nat) : Int)), X (.int w), none, none] from rfl, e2]
        rfl
      have hj1 := jks_all ha
      have hcst : ((k + 1 : Nat) : Int) = (k : Int) + 1 := by omega
      rw [hcst] at e3
      by_cases c4 : w < 4
      · refine ⟨.tup ds, q2, o2, by rw [jk_tup, hj1]; simp [hl], ?_⟩
        rw [callN_eq (fn := F__law_junk) rfl rfl, hF]
        simp [startT, run_cons, List.replicate, lim_eq, e, hk', c, c4, e3]
      · refine ⟨.fl ds, q2, o2, by rw [jk_fl, hj1]; simp [hl], ?_⟩
        rw [callN_eq (fn := F__law_junk) rfl rfl, hF]
        simp [startT, run_cons, List.replicate, lim_eq, e, hk', c, c4, e3]
    · obtain ⟨d, hd1, hd2⟩ := leaf (k + 1) j w q w0 w1
      refine ⟨d, q, o, hd1, ?_⟩
      rw [callN_eq (fn := F__law_junk) rfl rfl, hF]
      simp [startT, run_cons, List.replicate, lim_eq, e, c, -idx_fl, hd2]
end P3.K91
set_option Elab.async false
set_option linter.all false
set_option maxRecDepth 100000
set_option maxHeartbeats 0
/-! M91: k91, plainly -/
namespace P3.K91
open PySem L2
theorem smb (a b : Bool) (m : Mem) : C "_law_same" [.bl a, .bl b] m = .ok (.val (.bl (a == b))) m := same_at rfl 5 (by omega) (.bl b) (.bl a) m rfl rfl
theorem co_nt {d : D} (hi : isiEv .tuple d = some false) (one two : Kd) : Both "is_coercion" "_law_is_co" 5 [d, one.d, two.d] d := by
  refine both_ff ?_ ?_
  · intro N m hN
    obtain ⟨j, rfl⟩ : ∃ j, N = j + 1 := ⟨N - 1, by omega⟩
    rw [callN_eq (fn := F_is_coercion) rfl rfl]
    simp [F_is_coercion, startT, run_cons, List.replicate, lim_eq, hi]
  · intro N m hN
    obtain ⟨j, rfl⟩ : ∃ j, N = j + 1 := ⟨N - 1, by omega⟩
    rw [callN_eq (fn := F__law_is_co) rfl rfl]
    simp [F__law_is_co, startT, run_cons, List.replicate, lim_eq, hi]
abbrev T4 : List Int := [0, 1, 2, 3]
theorem rT : RngS T4 := fun l hl => by
  simp only [List.mem_cons, List.not_mem_nil, or_false] at hl
  rcases hl with rfl | rfl | rfl | rfl <;> omega
section
variable {sc x3 x6 x7 x8 x10 : Option Slot} {a b : Kd} {c : Co} {m : Mem} {d : D}
  (hd : Odd d) (ha : a.dep < 90) (hb : b.dep < 90) (hc : c.labS T4) (hh : c.ht ≤ 40)
abbrev St (sc x3 x6 x7 x8 x10 : Option Slot) (a b : Kd) (c : Co) (d : D) : Tau := [sc, L, V a, x3, V b, X c.d, x6, x7, x8, X d, x10]
include hd ha hb in
theorem s2 : runS G.consts C S_law_2 (St sc x3 x6 x7 x8 x10 a b c d) m = .nx (St sc x3 x6 x7 x8 x10 a b c d) m := by
  have hco : ∃ r, (∀ m, C "is_coercion" [d, a.d, b.d] m = .ok (.val (.bl r)) m) ∧ ∀ m, C "_law_is_co" [d, a.d, b.d] m = .ok (.val (.bl r)) m := by
    rcases hd.ok with ⟨h1, _⟩ | ⟨h1, _⟩
    · obtain ⟨r, e1, e2, _⟩ := co_nt h1 a b
      exact ⟨r, fun m => e1 99 m (by omega), fun m => e2 99 m (by omega)⟩
    · obtain ⟨r, e1, e2, _⟩ := co_at 7 d h1 a b ha hb
      exact ⟨r, fun m => e1 99 m (by omega), fun m => e2 99 m (by omega)⟩
  obtain ⟨r, e1, e2⟩ := hco
  obtain ⟨q, f1, f2⟩ := code_at hd
  have f1 := fun m => f1 99 m (by omega)
  have f2 := fun m => f2 99 m (by omega)
  simp [S_law_2, e1, e2, f1, f2, smb]
include hd hc hh in
theorem due_at (x y : Int) (t : Option Slot) : runSs G.consts C B_law_1 [sc, L, V a, x3, V b, X c.d, x6, x7, x8, X d, X (.tup [.int x, .int y])] m = .nx [sc, L, V a, x3, V b, X c.d, x6, x7, x8, X d, X (.tup [.int x, .int y])] m := by
  have e1 := fun m => check_blame_at rT (by simp) hc (by omega) a b x y hd (N := 99) (by omega) m
  have e2 := fun m => owners_at rT (by simp) hc (n := 99) (by omega) m
  have e3 := nin_labsL x y (own c)
  have e4 := eqD_w hd.data "never"
  have hm : decide ((x, y) ∈ own c) = decide ((x, y) ∈ c.live) := decide_eq_decide.mpr ((own_in rT hc).2.2 (x, y))
  rw [hm] at e3
  cases q : isW "never" d with
  | false =>
    have e1 : ∀ m, C "check_blame" [c.d, a.d, b.d, .tup [.int x, .int y], d] m = .ok (.val (.bl false)) m := fun m => (e1 m).trans (by rw [q]; rfl)
    rw [q] at e4
    simp [B_law_1, run_cons, lim_eq, e1, e4, smb]
  | true =>
    have e1 : ∀ m, C "check_blame" [c.d, a.d, b.d, .tup [.int x, .int y], d] m = .ok (.val (.bl (!decide ((x, y) ∈ c.live)))) m := fun m => (e1 m).trans (by rw [q]; rfl)
    rw [q] at e4
    generalize decide ((x, y) ∈ c.live) = z at e1 e3
    simp [B_law_1, run_cons, lim_eq, e1, e4, e2, e3, smb]
include hd hc hh in
theorem s3 : ∃ t, runS G.consts C S_law_3 (St sc x3 x6 x7 x8 x10 a b c d) m = .nx (St sc x3 x6 x7 x8 t a b c d) m := by
  refine ⟨X (.tup [.int 0, .int 0]), ?_⟩
  have b1 := due_at (sc := sc) (x3 := x3) (x6 := x6) (x7 := x7) (x8 := x8) (a := a) (b := b) (m := m) hd hc hh 1 1 none
  have b2 := due_at (sc := sc) (x3 := x3) (x6 := x6) (x7 := x7) (x8 := x8) (a := a) (b := b) (m := m) hd hc hh 0 0 none
  simp [S_law_3, lim_eq, for_cons, b1, b2]
include hd hh in
theorem s4 : ∃ e, runS G.consts C S_law_4 (St sc x3 x6 x7 x8 x10 a b c d) m = .nx (St sc x3 x6 x7 x8 x10 a b c d) (m ++ e) := by
  obtain ⟨e, e1⟩ := check_alike_at c a b (by omega) hd (N := 99) (by omega) m
  have e4 := eqD_w hd.data "alike"
  refine ⟨e, ?_⟩
  have e1 : C "check_alike" [c.d, c.d, a.d, b.d, d] m = .ok (.val (.bl (isW "alike" d))) (m ++ e) := e1
  generalize isW "alike" d = z at e1 e4
  simp [S_law_4, lim_eq, e1, e4, smb]
include hd ha hb hc hh in
theorem b5 : ∃ (t : Option Slot) (e : Mem), runSs G.consts C B_law_5 (St sc x3 x6 x7 x8 x10 a b c d) m = .nx (St sc x3 x6 x7 x8 t a b c d) (m ++ e) := by
  have e1 := s2 (sc := sc) (x3 := x3) (x6 := x6) (x7 := x7) (x8 := x8) (x10 := x10) (c := c) (m := m) hd ha hb
  obtain ⟨t, e2⟩ := s3 (sc := sc) (x3 := x3) (x6 := x6) (x7 := x7) (x8 := x8) (x10 := x10) (a := a) (b := b) (m := m) hd hc hh
  obtain ⟨e, e3⟩ := s4 (sc := sc) (x3 := x3) (x6 := x6) (x7 := x7) (x8 := x8) (x10 := t) (a := a) (b := b) (m := m) hd hh
  exact ⟨t, e, by simp only [B_law_5, run_cons, e1, e2, e3, then_nx, run_nil]⟩
end
section
variable {sc x3 x6 x7 x8 : Option Slot} {a b : Kd} {c : Co} (ha : a.dep < 90) (hb : b.dep < 90) (hc : c.labS T4) (hh : c.ht ≤ 40)
include ha hb hc hh in
theorem odds : ∀ (ds : List D), (∀ d ∈ ds, Odd d) → ∀ (x9 x10 : Option Slot) (m : Mem), ∃ (y9 y10 : Option Slot) (e : Mem),
    forEv (tgEv (.name 9)) (fun τ m => runSs G.consts C B_law_5 τ m) ds [sc, L, V a, x3, V b, X c.d, x6, x7, x8, x9, x10] m = .nx [sc, L, V a, x3, V b, X c.d, x6, x7, x8, y9, y10] (m ++ e)
  | [], _, x9, x10, m => ⟨x9, x10, [], by simp⟩
  | d :: ds, h, x9, x10, m => by
    obtain ⟨t, f1, e1⟩ := b5 (sc := sc) (x3 := x3) (x6 := x6) (x7 := x7) (x8 := x8) (x10 := x10) (m := m) (h d List.mem_cons_self) ha hb hc hh
    obtain ⟨y9, y10, f2, e2⟩ := odds ds (fun d' h' => h d' (List.mem_cons_of_mem _ h')) (X d) t (m ++ f1)
    refine ⟨y9, y10, f1 ++ f2, ?_⟩
    rw [for_cons]
    show (match runSs G.consts C B_law_5 (St sc x3 x6 x7 x8 x10 a b c d) m with
      | .nx τ1 m1 => forEv _ _ ds τ1 m1
      | .ct τ1 m1 => forEv _ _ ds τ1 m1
      | .bk τ1 m1 => .nx τ1 m1
      | r => r) = _
    rw [e1, ← List.append_assoc]
    exact e2
end
/-! ### what is asked about -/
theorem up (n m : Nat) (d : D) (h : n ≤ m) (hj : jk L0 n d = true) : jk L1 m d = true := jk_up (fun s hs => List.mem_append_left _ hs) n m d h hj
theorem odd_J {J : D} (h : jk L0 5 J = true) : Odd J := ⟨(jk_data L0 5 J h).1, .inr ⟨up 5 7 J (by omega) h, fun w a b e => by
  subst e
  rw [jk_tup, Bool.and_eq_true] at h
  have := h.2
  simp only [jks_cons, Bool.and_eq_true] at this
  exact jk_up (fun s hs => hs) 4 5 a (by omega) this.2.1⟩⟩
theorem odd_fl (x : Co) : Odd (.fl [x.d]) := ⟨by simp [D.isData, D.areData, x.data], .inl ⟨rfl, fun xs e => by cases e⟩⟩
abbrev names9 : List String := ["blamed", "parts", "never", "alike", "owed", "passes", "from", "to", "fun"]
theorem n9 {w : String} (h : w ∈ names9) (n : Nat) : jk L1 n (.str w) = true := by
  have : w ∈ L1 := by
    simp only [List.mem_cons, List.not_mem_nil, or_false] at h
    rcases h with rfl | rfl | rfl | rfl | rfl | rfl | rfl | rfl | rfl <;> simp
  have := List.contains_iff_mem.mpr this
  cases n <;> exact this
/-- a word and what may stand behind it -/
def named (w : String) (J K : D) (v : Nat) : D := .tup ([.str w, J, K].take (1 + v))
section
variable {w : String} {J K : D} {v : Nat} (hw : w ∈ names9) (hJ : jk L0 5 J = true) (hK : jk L0 4 K = true)
include hw hJ hK in
theorem jk_named : jk L1 6 (named w J K v) = true := by
  have h0 := n9 hw 5
  have h1 := up 5 5 J (by omega) hJ
  have h2 := up 4 5 K (by omega) hK
  match v with
  | 0 =>
    show jk L1 6 (.tup [.str w]) = true
    rw [jk_tup, jks_cons, h0]; rfl
  | 1 =>
    show jk L1 6 (.tup [.str w, J]) = true
    rw [jk_tup, jks_cons, jks_cons, h0, h1]; rfl
  | 2 =>
    show jk L1 6 (.tup [.str w, J, K]) = true
    rw [jk_tup, jks_cons, jks_cons, jks_cons, h0, h1, h2]; rfl
  | v + 3 =>
    have : named w J K (v + 3) = .tup [.str w, J, K] := by
      unfold named
      rw [List.take_of_length_le (by simp; omega)]
    rw [this, jk_tup, jks_cons, jks_cons, jks_cons, h0, h1, h2]; rfl
include hw hJ hK in
theorem odd_N : Odd (named w J K v) := by
  have h := jk_named (v := v) hw hJ hK
  refine ⟨(jk_data L1 6 _ h).1, .inr ⟨jk_up (fun s hs => hs) 6 7 _ (by omega) h, fun w' a b e => ?_⟩⟩
  unfold named at e
  match v with
  | 0 => simp at e
  | 1 => simp at e
  | v + 2 =>
    have : ([D.str w, J, K].take (1 + (v + 2))) = [.str w, J, K] := List.take_of_length_le (by simp; omega)
    rw [this] at e
    cases e
    exact hJ
theorem odd_of {xs : List D} (h : jks L1 6 xs = true) (hl : xs.length ≤ 2) : Odd (.tup xs) := by
  have h7 : jk L1 7 (.tup xs) = true := by rw [jk_tup, h]; simp; omega
  refine ⟨(jk_data L1 7 _ h7).1, .inr ⟨h7, fun w a b e => ?_⟩⟩
  cases e
  simp at hl
include hJ in
theorem odd_1 : Odd (.tup [J]) := odd_of (by rw [jks_cons, up 5 6 J (by omega) hJ]; rfl) (by simp)
include hw hJ hK in
theorem odd_NJ : Odd (.tup [named w J K v, J]) := odd_of (by rw [jks_cons, jks_cons, jk_named hw hJ hK, up 5 6 J (by omega) hJ]; rfl) (by simp)
theorem jkL1 {s : String} (h : s ∈ L1) (n : Nat) : jk L1 n (.str s) = true := by
  have := List.contains_iff_mem.mpr h
  cases n <;> exact this
include hJ in
theorem odd_later : Odd (.tup [.tup [.str "later", J]]) := odd_of (by
  rw [jks_cons, jk_tup, jks_cons, jks_cons, jkL1 (by simp) 5, up 5 5 J (by omega) hJ]; rfl) (by simp)
include hJ in
theorem odd_name : Odd (.tup [.tup [.str "name", J], .tup [.str "return"]]) := odd_of (by
  rw [jks_cons, jk_tup, jks_cons, jks_cons, jkL1 (by simp) 5, up 5 5 J (by omega) hJ, jks_cons, jk_tup, jks_cons, jkL1 (by simp) 5]; rfl) (by simp)
end
section
variable {sc x3 x6 x7 x8 x9 x10 : Option Slot} {a b : Kd} {c : Co} (ha : a.dep < 90) (hb : b.dep < 90) (hc : c.labS T4) (hh : c.ht ≤ 40)
include ha hb hc hh in
theorem body {p : Pool} (hp : p.Ok) : ∃ (y7 y8 y9 y10 : Option Slot) (q : Pool), q.Ok ∧ runSs G.consts C B_law_10 [sc, L, V a, x3, V b, X c.d, x6, x7, x8, x9, x10] p.m = .nx [sc, L, V a, x3, V b, X c.d, x6, y7, y8, y9, y10] q.m := by
  obtain ⟨J, q1, o1, hJ, e1⟩ := junk_ex 4 (N := 99) (by omega) hp
  obtain ⟨wd, q2, o2, hw, e2⟩ := pick_ex hd (n := 99) (by omega) o1 (ds := names9.map D.str) (by simp) (by simp)
  obtain ⟨w, hw9, rfl⟩ := List.mem_map.mp hw
  obtain ⟨K, q3, o3, hK, e3⟩ := junk_ex 3 (N := 99) (by omega) o2
  obtain ⟨v, q4, o4, v0, v3, e4⟩ := draw_ex hd (n := 99) (by omega) o3 (k := 3) (by omega) (by omega)
  have e1 : C "_law_junk" [.loc 0, .int 4] p.m = .ok (.val J) q1.m := e1
  have e2 : C "_law_pick" [.loc 0, .fl [.str "blamed", .str "parts", .str "never", .str "alike", .str "owed", .str "passes", .str "from", .str "to", .str "fun"]] q1.m = .ok (.val (.str w)) q2.m := e2
  have e3 : C "_law_junk" [.loc 0, .int 3] q2.m = .ok (.val K) q3.m := e3
  have e4 : C "_law_draw" [.loc 0, .int 3] q3.m = .ok (.val (.int v)) q4.m := e4
  have hs : slcEv (.tup [.str w, J, K]) none (some (1 + v)) = some (.val (named w J K v.toNat)) := by
    rw [slc_tup, if_pos (by rw [lim_eq]; simp)]
    congr 2
    unfold named cut cutAt
    simp only
    rw [if_neg (by omega), List.drop_zero, Nat.sub_zero]
    have : (1 + v).toNat = 1 + v.toNat := by omega
    rw [this]
    by_cases q : 1 + v.toNat ≤ [D.str w, J, K].length
    · rw [Nat.min_eq_left q]
    · rw [Nat.min_eq_right (by omega), List.take_of_length_le (Nat.le_refl _), List.take_of_length_le (by omega)]
  have r6 : runS G.consts C S_law_6 [sc, L, V a, x3, V b, X c.d, x6, x7, x8, x9, x10] p.m = .nx [sc, L, V a, x3, V b, X c.d, x6, X J, x8, x9, x10] q1.m := by simp [S_law_6, e1]
  have r7 : runS G.consts C S_law_7 [sc, L, V a, x3, V b, X c.d, x6, X J, x8, x9, x10] q1.m = .nx [sc, L, V a, x3, V b, X c.d, x6, X J, x8, x9, x10] q1.m := by simp [S_law_7]
  have r8 : runS G.consts C S_law_8 [sc, L, V a, x3, V b, X c.d, x6, X J, x8, x9, x10] q1.m = .nx [sc, L, V a, x3, V b, X c.d, x6, X J, X (named w J K v.toNat), x9, x10] q4.m := by
    simp [S_law_8, lim_eq, e2, e3, e4, -slc_tup, hs]
  obtain ⟨y9, y10, e, r9⟩ := odds (sc := sc) (x3 := x3) (x6 := x6) (x7 := X J) (x8 := X (named w J K v.toNat)) ha hb hc hh
    [J, named w J K v.toNat, .tup [J], .fl [c.d], .tup [named w J K v.toNat, J], .tup [.tup [.str "later", J]], .tup [.tup [.str "name", J], .tup [.str "return"]]] (by
      intro d hd
      simp only [List.mem_cons, List.not_mem_nil, or_false] at hd
      rcases hd with rfl | rfl | rfl | rfl | rfl | rfl | rfl
      · exact odd_J hJ
      · exact odd_N hw9 hJ hK
      · exact odd_1 hJ
      · exact odd_fl c
      · exact odd_NJ hw9 hJ hK
      · exact odd_later hJ
      · exact odd_name hJ) x9 x10 q4.m
  refine ⟨X J, X (named w J K v.toNat), y9, y10, { q4 with M := q4.M ++ e }, ⟨o4.i, o4.n⟩, ?_⟩
  have r9' : runS G.consts C S_law_9 [sc, L, V a, x3, V b, X c.d, x6, X J, X (named w J K v.toNat), x9, x10] q4.m = .nx [sc, L, V a, x3, V b, X c.d, x6, X J, X (named w J K v.toNat), y9, y10] (q4.m ++ e) := by
    simp [S_law_9, lim_eq, r9]
  simp only [B_law_10, run_cons, r6, r7, r8, r9', then_nx, run_nil]
  rfl
include ha hb hc hh in
theorem loop : ∀ (xs : List D) {x6 x7 x8 x9 x10 : Option Slot} {p : Pool}, p.Ok → ∃ (y6 y7 y8 y9 y10 : Option Slot) (q : Pool), forEv (tgEv (.name 6)) (fun τ m => runSs G.consts C B_law_10 τ m) xs [sc, L, V a, x3, V b, X c.d, x6, x7, x8, x9, x10] p.m = .nx [sc, L, V a, x3, V b, X c.d, y6, y7, y8, y9, y10] q.m
  | [], x6, x7, x8, x9, x10, p, hp => ⟨x6, x7, x8, x9, x10, p, rfl⟩
  | d :: xs, x6, x7, x8, x9, x10, p, hp => by
    obtain ⟨z7, z8, z9, z10, q, k, e⟩ := body (sc := sc) (x3 := x3) (x6 := X d) (x7 := x7) (x8 := x8) (x9 := x9) (x10 := x10) ha hb hc hh hp
    obtain ⟨y6, y7, y8, y9, y10, q', e'⟩ := loop xs (x6 := X d) (x7 := z7) (x8 := z8) (x9 := z9) (x10 := z10) k
    refine ⟨y6, y7, y8, y9, y10, q', ?_⟩
    rw [for_cons]
    show (match runSs G.consts C B_law_10 [sc, L, V a, x3, V b, X c.d, X d, x7, x8, x9, x10] p.m with
      | .nx τ1 m1 => forEv _ _ xs τ1 m1
      | .ct τ1 m1 => forEv _ _ xs τ1 m1
      | .bk τ1 m1 => .nx τ1 m1
      | r => r) = _
    rw [e]
    exact e'
end
theorem allF_lab {T : List Int} {k z : Kd} {cs : List Ca} (h : Pth k cs z) : ∀ {x : Co} {a : Kd}, Sh x a k → x.labS T → (∀ c ∈ cs, c.l ∈ T ∧ (c.s = 0 ∨ c.s = 1)) → (allF x cs).labS T := by
  induction h with
  | nil a => intro x a hx hl _; exact hl
  | @cons c cs z h1 h3 h4 hp ih =>
    intro x a hx hl hc
    obtain ⟨c1, c2⟩ := hc c List.mem_cons_self
    have hs := (sh_co _ _ c.l c.s h1).1
    exact ih (then_sh hx hs) (then_labS hx hs hl (labS_of (lab1_co c.a c.b c.l c.s c2 h1).1 c1)) fun c' h' => hc c' (List.mem_cons_of_mem _ h')
theorem idC_lab (T : List Int) : ∀ k : Kd, (idC k).labS T
  | .any => True.intro
  | .int => True.intro
  | .bool => True.intro
  | .fn a b => ⟨idC_lab T a, idC_lab T b⟩
  | .pr a b => ⟨idC_lab T a, idC_lab T b⟩
theorem maths (ns : List Int) (h : ns.length ≤ 63) : ∃ m, callN G 100 "law" [.fl (ns.map D.int)] [] = .ok (.val (.bl true)) m := by
  obtain ⟨s, hs⟩ := pool_at hd (n := 99) (by omega) ns h []
  obtain ⟨k, q1, o1, d1, e1⟩ := kind_ex hd (n := 99) rfl 2 (by omega) (p := ⟨ns, 0, 0, 0, s, []⟩) ⟨Int.le_refl 0, h⟩
  obtain ⟨cs, z, q2, o2, hP, hl, dz, hlab, e2⟩ := chain_ex hd hr (n := 99) (by omega) d1 o1 (many := 2) (by omega) (by omega)
  have e3 := one_of_at hr (n := 99) (by omega) hP (by omega) q2.m
  have hP1 := hP.one
  have hl1 : (cs.map Ca.one).length = 2 := by rw [List.length_map]; omega
  have e4 := all_at hr (n := 99) hP1 d1 (by omega) (by omega) q2.m
  have ht := allC_ht hP1 d1
  have hc : (allC k (cs.map Ca.one)).labS T4 := allF_lab hP1 (sh_id k) (idC_lab T4 k) fun c hc => by
    obtain ⟨c', hc', rfl⟩ := List.mem_map.mp hc
    have := hlab c' hc'
    refine ⟨?_, .inr rfl⟩
    show c'.l ∈ T4
    have : c'.l = 0 ∨ c'.l = 1 ∨ c'.l = 2 ∨ c'.l = 3 := by omega
    simp only [List.mem_cons, List.not_mem_nil, or_false]
    exact this
  obtain ⟨y6, y7, y8, y9, y10, q, e⟩ := loop (sc := X (.fl (ns.map D.int))) (x3 := X (.fl (cds (cs.map Ca.one)))) (a := k) (b := z) (c := allC k (cs.map Ca.one)) (by omega) (by omega) hc (by omega) (rangeOf 0 25) (x6 := none) (x7 := none) (x8 := none) (x9 := none) (x10 := none) o2
  refine ⟨q.m, ?_⟩
  show callN G (99 + 1) _ _ _ = _
  rw [callN_eq (fn := F_law) rfl rfl]
  have hm : midInt 25 = true := by decide
  have e1 : callN G 99 "_law_kind" [.loc 0, .int 2] [.ct (.lst (Pool.l ⟨ns, 0, 0, 0, s, []⟩))] = .ok (.val k.d) q1.m := e1
  have e2 : callN G 99 "_law_chain" [.loc 0, k.d, .int 2] q1.m = .ok (.own (.lst (cds cs))) q2.m := e2
  simp [F_law, startT, run_cons, List.replicate, lim_eq, hs, hm, e1, e2, e3, e4, e]
end P3.K91
set_option Elab.async false
set_option linter.all false
set_option maxRecDepth 100000
set_option maxHeartbeats 0
open PySem PySem.W PyProof.Rows PySem.Calls
theorem PySem.Challenge.cw_halftyped_k91_whole_values_that_are_no_c_holds : PySem.Challenge.rw_halftyped_k91_whole_values_that_are_no_c.Holds := by
  w_on; o_law
  refine HandSHeadRun.head_any (r := P3.K91.R) (q := view P3.K91.R.prog [129]) (H := P3.K91.hk) (ob := P3.K91.ob) (M := 8000) (loose := P3.K91.loose) (d := HandSHeadRun.topDef P3.K91.R.prog 129) (kwd := []) P3.K91.ob_eq
    (by kernel_rfl) (fun s => by kernel_rfl) P3.K91.run (by kernel_rfl) (by kernel_rfl) (by kernel_rfl) (by rfl) (by first | assumption | decide +kernel) (by decide +kernel) ⟨rfl, rfl, rfl, rfl, rfl, by decide +kernel⟩ ?hw ?hc
  case hw => w_witness2
  case hc => exact P3.law_end (l := PySem.Challenge.rw_halftyped_k91_whole_values_that_are_no_c) rfl (by kernel_rfl) (by kernel_rfl) ⟨rfl, by decide, by decide⟩ P3.K91.binds P3.K91.ok (e := P3.K91.eLaw) (by simp [P3.K91.tbl, P3.K91.eLaw]) rfl rfl rfl rfl rfl P3.K91.maths
