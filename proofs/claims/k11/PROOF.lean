import PyProof.Rows.All
import Wide.All
import OpenK.AllK
import Wide.FinOn
import HandS.ForMost
import HandS.Exc
import HandS.Wide
import HandS.WideBits
import HandS.Defaults
import HandS.ExcOwn
import HandS.IsInst
import HandS.EndBits
import HandS.Deep
import HandS.Zip
import HandS.TupAny
import KE.KUnpackStar
import KE.KTupSum
import HandS.Conv
import HandS.Flow
import HandS.Style
import HandS.TryOnly
import HandS.DictComp
import HandS.ExcInit
import HandS.ExcIs
import HandS.ExcField
import KE.KExcIs
import HandS.Set
import HandS.SetBool
import HandS.Strs
import HandS.More
import KE.KStateDown
import HandS.Head0
import HandS.Head1
import HandS.Head2
import HandS.HeadEnd
import HandS.HeadHook1
import HandS.HeadHook2
import HandS.SortInts
import HandS.Iter
import HandS.Finally
import HandS.WordsDict
import PySem.Challenge.RW_sherdhall_k11_whole_one_number_changed
set_option Elab.async false
set_option linter.all false
set_option maxRecDepth 100000
set_option autoImplicit false
/-! Sh1: data trees, what a value stands for, the state of a def by data. -/
namespace Sh
open PySem PySem.Spec PyProof.Rows L2

inductive D where
  | non | bl (b : Bool) | int (i : Int) | str (s : Str)
  | lst (xs : List D) | tup (xs : List D)
  | dct (kvs : List (Key × D)) | dtt (kvs : List (List Key × D))
  | ins (C : Addr) (fs : List (Str × D)) | exc (C : Addr) (fs : List (Str × D))
  | purse | scr (ns : List Int) | ref (a : Addr) | ty (n : String)

/-- the three numbers of a source of draws -/
def PGood (n : Nat) (x y z : Int) : Prop := 0 ≤ z ∧ z ≤ n ∧ y.natAbs < 2 ^ 256
def PurseO (a : Addr) (n : Nat) : HO := .ext fun h => ∃ x y z : Int, PGood n x y z ∧ ∃ (its : List Value) (m : Nat), Vals [.int x, .int y, .int z] its ∧ h.get? a = some { cls := .type "list", data := .seq its.toArray m }
theorem purse_ext (a : Addr) (n : Nat) : ∃ φ, PurseO a n = .ext φ := ⟨_, rfl⟩

/-- the script: read alone -/
def ScrL (K : PySem.W.Frag) (H : Hp) (a : Addr) (xs : List V) : Prop := (∃ o, H a = some (.frz o (.lst xs))) ∨
    ∃ (o : Obj) (its : Array Value) (n : Nat), K.lookup a = some o ∧ o.cls = .type "list" ∧ o.dict = none ∧ o.data = .seq its n ∧ its.size ≤ sizeLine ∧ Vals xs its.toList
theorem ScrL.sq {K : PySem.W.Frag} {H : Hp} {a : Addr} {xs : List V} (h : ScrL K H a xs) : SqL K H a xs := by
  rcases h with h | h
  · exact .inl (.inr h)
  · exact .inr h
mutual
inductive Rp (K : PySem.W.Frag) (H : Hp) : V → D → Prop
  | non : Rp K H .non .non
  | bl (b : Bool) : Rp K H (.bl b) (.bl b)
  | int (i : Int) : Rp K H (.int i) (.int i)
  | str (s : Str) : Rp K H (.str s) (.str s)
  | lst {a : Addr} {vs : List V} {ds : List D} : H a = some (.lst vs) → RpA K H vs ds → Rp K H (.ref a) (.lst ds)
  | scr {a : Addr} {ns : List Int} : ScrL K H a (ns.map V.int) → Rp K H (.ref a) (.scr ns)
  | tup {a : Addr} {vs : List V} {ds : List D} : SqT K H a vs → RpA K H vs ds → Rp K H (.ref a) (.tup ds)
  | dct {a : Addr} {kvs : List (Key × V)} {kds : List (Key × D)} : H a = some (.dK kvs) → RpK K H kvs kds → Rp K H (.ref a) (.dct kds)
  | dtt {a : Addr} {kvs : List (List Key × V)} {kds : List (List Key × D)} : H a = some (.dT kvs) → RpT K H kvs kds → Rp K H (.ref a) (.dtt kds)
  | ins {a C dx : Addr} {fs : List (Str × V)} {ds : List (Str × D)} : H a = some (.ins C dx fs) → RpF K H fs ds → Rp K H (.ref a) (.ins C ds)
  | exc {a C dd : Addr} {oe : Obj} {u : HO} {fs : List (Str × V)} {ds : List (Str × D)} : H a = some (.frz oe u) → Zc (.ref C) (some dd) oe → (∃ vs, oe.data = .fields vs) → H dd = some (.xd fs) → RpF K H fs ds → Rp K H (.ref a) (.exc C ds)
  | purse {a : Addr} {n : Nat} : H a = some (PurseO a n) → Rp K H (.ref a) .purse
  | ref (a : Addr) : Rp K H (.ref a) (.ref a)
  | ty (n : String) : Rp K H (.ty n) (.ty n)
inductive RpA (K : PySem.W.Frag) (H : Hp) : List V → List D → Prop
  | nil : RpA K H [] []
  | cons {v : V} {d : D} {vs : List V} {ds : List D} : Rp K H v d → RpA K H vs ds → RpA K H (v :: vs) (d :: ds)
inductive RpK (K : PySem.W.Frag) (H : Hp) : List (Key × V) → List (Key × D) → Prop
  | nil : RpK K H [] []
  | cons {k : Key} {v : V} {d : D} {vs : List (Key × V)} {ds : List (Key × D)} : Rp K H v d → RpK K H vs ds → RpK K H ((k, v) :: vs) ((k, d) :: ds)
inductive RpT (K : PySem.W.Frag) (H : Hp) : List (List Key × V) → List (List Key × D) → Prop
  | nil : RpT K H [] []
  | cons {k : List Key} {v : V} {d : D} {vs : List (List Key × V)} {ds : List (List Key × D)} : Rp K H v d → RpT K H vs ds → RpT K H ((k, v) :: vs) ((k, d) :: ds)
inductive RpF (K : PySem.W.Frag) (H : Hp) : List (Str × V) → List (Str × D) → Prop
  | nil : RpF K H [] []
  | cons {k : Str} {v : V} {d : D} {vs : List (Str × V)} {ds : List (Str × D)} : Rp K H v d → RpF K H vs ds → RpF K H ((k, v) :: vs) ((k, d) :: ds)
end

/-- all that is known but sources of draws stays; these stay such -/
structure Kp (H H' : Hp) : Prop where
  keep : ∀ a o, H a = some o → (∀ φ, o ≠ .ext φ) → H' a = some o
  pz : ∀ a n, H a = some (PurseO a n) → ∃ m, H' a = some (PurseO a m)
theorem Kp.refl (H : Hp) : Kp H H := ⟨fun _ _ h _ => h, fun a n h => ⟨n, h⟩⟩
theorem Kp.trans {H H1 H2 : Hp} (a : Kp H H1) (b : Kp H1 H2) : Kp H H2 :=
  ⟨fun x o h n => b.keep x o (a.keep x o h n) n, fun x n h => let ⟨_, q⟩ := a.pz x n h; b.pz x _ q⟩
theorem Kp.sub {H H' : Hp} (h : ∀ a o, H a = some o → H' a = some o) : Kp H H' := ⟨fun a o e _ => h a o e, fun a n e => ⟨n, h a _ e⟩⟩
theorem Kp.seqL {K : PySem.W.Frag} {H H' : Hp} {a : Addr} {vs : List V} (e : Kp H H') (h : SqL K H a vs) : SqL K H' a vs := by
  rcases h with (h | ⟨o, h⟩) | h
  · exact .inl (.inl (e.keep _ _ h fun _ z => nomatch z))
  · exact .inl (.inr ⟨o, e.keep _ _ h fun _ z => nomatch z⟩)
  · exact .inr h
theorem Kp.seqT {K : PySem.W.Frag} {H H' : Hp} {a : Addr} {vs : List V} (e : Kp H H') (h : SqT K H a vs) : SqT K H' a vs := by
  rcases h with (h | ⟨o, h⟩) | h
  · exact .inl (.inl (e.keep _ _ h fun _ z => nomatch z))
  · exact .inl (.inr ⟨o, e.keep _ _ h fun _ z => nomatch z⟩)
  · exact .inr h
theorem Kp.scr {K : PySem.W.Frag} {H H' : Hp} {a : Addr} {vs : List V} (e : Kp H H') (h : ScrL K H a vs) : ScrL K H' a vs := by
  rcases h with ⟨o, h⟩ | h
  · exact .inl ⟨o, e.keep _ _ h fun _ z => nomatch z⟩
  · exact .inr h
section
variable {K : PySem.W.Frag} {H H' : Hp}
mutual
theorem Rp.mono (e : Kp H H') : ∀ {v : V} {d : D}, Rp K H v d → Rp K H' v d
  | _, _, .non => .non
  | _, _, .bl b => .bl b
  | _, _, .int i => .int i
  | _, _, .str i => .str i
  | _, _, .lst h q => .lst (e.keep _ _ h fun _ z => nomatch z) (RpA.mono e q)
  | _, _, .scr h => .scr (e.scr h)
  | _, _, .tup h q => .tup (e.seqT h) (RpA.mono e q)
  | _, _, .dct h q => .dct (e.keep _ _ h fun _ z => nomatch z) (RpK.mono e q)
  | _, _, .dtt h q => .dtt (e.keep _ _ h fun _ z => nomatch z) (RpT.mono e q)
  | _, _, .ins h q => .ins (e.keep _ _ h fun _ z => nomatch z) (RpF.mono e q)
  | _, _, .exc h z d x q => .exc (e.keep _ _ h fun _ z => nomatch z) z d (e.keep _ _ x fun _ z => nomatch z) (RpF.mono e q)
  | _, _, .purse h => let ⟨_, q⟩ := e.pz _ _ h; .purse q
  | _, _, .ref a => .ref a
  | _, _, .ty a => .ty a
theorem RpA.mono (e : Kp H H') : ∀ {v : List V} {d : List D}, RpA K H v d → RpA K H' v d
  | _, _, .nil => .nil
  | _, _, .cons h q => .cons (Rp.mono e h) (RpA.mono e q)
theorem RpK.mono (e : Kp H H') : ∀ {v : List (Key × V)} {d : List (Key × D)}, RpK K H v d → RpK K H' v d
  | _, _, .nil => .nil
  | _, _, .cons h q => .cons (Rp.mono e h) (RpK.mono e q)
theorem RpT.mono (e : Kp H H') : ∀ {v : List (List Key × V)} {d : List (List Key × D)}, RpT K H v d → RpT K H' v d
  | _, _, .nil => .nil
  | _, _, .cons h q => .cons (Rp.mono e h) (RpT.mono e q)
theorem RpF.mono (e : Kp H H') : ∀ {v : List (Str × V)} {d : List (Str × D)}, RpF K H v d → RpF K H' v d
  | _, _, .nil => .nil
  | _, _, .cons h q => .cons (Rp.mono e h) (RpF.mono e q)
end
end
theorem RpA.length {K : PySem.W.Frag} {H : Hp} : ∀ {vs : List V} {ds : List D}, RpA K H vs ds → vs.length = ds.length
  | _, _, .nil => rfl
  | _, _, .cons _ q => congrArg (· + 1) (RpA.length q)
theorem RpA.get {K : PySem.W.Frag} {H : Hp} : ∀ {vs : List V} {ds : List D} {i : Nat} {v : V}, RpA K H vs ds → vs[i]? = some v → ∃ d, ds[i]? = some d ∧ Rp K H v d
  | _, _, i, v, .nil, h => by simp at h
  | _, _, 0, v, .cons p q, h => by simp at h; subst h; exact ⟨_, rfl, p⟩
  | _, _, i + 1, v, .cons p q, h => by
    obtain ⟨d, e, r⟩ := RpA.get (i := i) (v := v) q (by simpa using h)
    exact ⟨d, by simpa using e, r⟩
theorem RpA.getD {K : PySem.W.Frag} {H : Hp} : ∀ {vs : List V} {ds : List D} {i : Nat} {d : D}, RpA K H vs ds → ds[i]? = some d → ∃ v, vs[i]? = some v ∧ Rp K H v d
  | _, _, i, v, .nil, h => by simp at h
  | _, _, 0, v, .cons p q, h => by simp at h; subst h; exact ⟨_, rfl, p⟩
  | _, _, i + 1, v, .cons p q, h => by
    obtain ⟨d, e, r⟩ := RpA.getD (i := i) (d := v) q (by simpa using h)
    exact ⟨d, by simpa using e, r⟩
theorem RpA.append {K : PySem.W.Frag} {H : Hp} : ∀ {vs ws : List V} {ds es : List D}, RpA K H vs ds → RpA K H ws es → RpA K H (vs ++ ws) (ds ++ es)
  | _, _, _, _, .nil, r => r
  | _, _, _, _, .cons p q, r => .cons p (RpA.append q r)
theorem RpA.take {K : PySem.W.Frag} {H : Hp} : ∀ {vs : List V} {ds : List D} (n : Nat), RpA K H vs ds → RpA K H (vs.take n) (ds.take n)
  | _, _, 0, _ => .nil
  | _, _, _ + 1, .nil => .nil
  | _, _, n + 1, .cons p q => .cons p (RpA.take n q)
theorem RpA.drop {K : PySem.W.Frag} {H : Hp} : ∀ {vs : List V} {ds : List D} (n : Nat), RpA K H vs ds → RpA K H (vs.drop n) (ds.drop n)
  | _, _, 0, r => r
  | _, _, _ + 1, .nil => .nil
  | _, _, n + 1, .cons p q => RpA.drop n q
theorem RpA.set {K : PySem.W.Frag} {H : Hp} {x : V} {y : D} (h : Rp K H x y) : ∀ {vs : List V} {ds : List D} (n : Nat), RpA K H vs ds → RpA K H (vs.set n x) (ds.set n y)
  | _, _, _, .nil => .nil
  | _, _, 0, .cons p q => .cons h q
  | _, _, n + 1, .cons p q => .cons p (RpA.set h n q)
theorem RpA.ints {K : PySem.W.Frag} {H : Hp} : ∀ {vs : List V} {ns : List Int}, RpA K H vs (ns.map D.int) → vs = ns.map V.int
  | _, [], .nil => rfl
  | _, n :: ns, .cons p q => by
    cases p
    rw [List.map_cons, RpA.ints q]
theorem RpA.of_ints {K : PySem.W.Frag} {H : Hp} : ∀ {ns : List Int}, RpA K H (ns.map V.int) (ns.map D.int)
  | [] => .nil
  | n :: ns => .cons (.int n) RpA.of_ints
theorem RpA.bools {K : PySem.W.Frag} {H : Hp} : ∀ {vs : List V} {ns : List Bool}, RpA K H vs (ns.map D.bl) → vs = ns.map V.bl
  | _, [], .nil => rfl
  | _, n :: ns, .cons p q => by
    cases p
    rw [List.map_cons, RpA.bools q]
theorem RpA.strs {K : PySem.W.Frag} {H : Hp} : ∀ {vs : List V} {ns : List Str}, RpA K H vs (ns.map D.str) → vs = ns.map V.str
  | _, [], .nil => rfl
  | _, n :: ns, .cons p q => by
    cases p
    rw [List.map_cons, RpA.strs q]

/-! ### masks -/
open Classical in
noncomputable def msk (M : Addr → Prop) (H : Hp) : Hp := fun a => if M a then none else H a
theorem msk_of {M : Addr → Prop} {H : Hp} {a : Addr} {o : HO} (h : msk M H a = some o) : ¬ M a ∧ H a = some o := by
  unfold msk at h
  split at h
  · cases h
  · exact ⟨by assumption, h⟩
theorem msk_no {M : Addr → Prop} {H : Hp} {a : Addr} (h : ¬ M a) : msk M H a = H a := by
  unfold msk
  rw [if_neg h]
theorem msk_mono {M : Addr → Prop} {H H' : Hp} (e : Kp H H') : Kp (msk M H) (msk M H') :=
  ⟨fun a o h n => by
    obtain ⟨h1, h2⟩ := msk_of h
    rw [msk_no h1]
    exact e.keep a o h2 n, fun a n h => by
    obtain ⟨h1, h2⟩ := msk_of h
    obtain ⟨m, q⟩ := e.pz a n h2
    exact ⟨m, by rw [msk_no h1]; exact q⟩⟩
theorem msk_sub {M M' : Addr → Prop} {H : Hp} (e : ∀ a, M a → M' a) : Kp (msk M' H) (msk M H) := Kp.sub fun a o h => by
  obtain ⟨h1, h2⟩ := msk_of h
  rw [msk_no fun z => h1 (e a z)]
  exact h2
theorem msk_all {M : Addr → Prop} {H : Hp} : Kp (msk M H) H := Kp.sub fun a o h => (msk_of h).2
/-- a change at a masked place -/
theorem msk_upd {M : Addr → Prop} {H : Hp} {a : Addr} {o : HO} (h : M a) : msk M (upd H a o) = msk M H := by
  funext b
  unfold msk
  by_cases hb : M b
  · rw [if_pos hb, if_pos hb]
  · rw [if_neg hb, if_neg hb, upd_ne (fun z => hb (by rw [z]; exact h))]

/-! ### sources of draws, how often they may be asked -/
def LIM : Nat := 2 ^ 60
def Pz (n : Nat) (H : Hp) : Prop := ∀ a φ, H a = some (.ext φ) → ∃ m, m ≤ n ∧ HO.ext φ = PurseO a m
def Lim (b : Nat) (H : Hp) : Prop := ∃ n, Pz n H ∧ n + b ≤ LIM
theorem Lim.mono {b b' : Nat} {H : Hp} (h : Lim b H) (hb : b' ≤ b) : Lim b' H := let ⟨n, p, q⟩ := h; ⟨n, p, by omega⟩
theorem Pz.upd {n : Nat} {H : Hp} {a : Addr} {o : HO} (h : Pz n H) (ho : ∀ φ, o ≠ .ext φ) : Pz n (upd H a o) := fun b φ e => by
  by_cases hb : b = a
  · subst hb
    rw [upd_same] at e
    exact absurd (Option.some.inj e) (ho φ)
  · rw [upd_ne hb] at e
    exact h b φ e
theorem Lim.upd {b : Nat} {H : Hp} {a : Addr} {o : HO} (h : Lim b H) (ho : ∀ φ, o ≠ .ext φ) : Lim b (upd H a o) := let ⟨n, p, q⟩ := h; ⟨n, p.upd ho, q⟩

/-- what a call leaves -/
structure Ext (H H' : Hp) : Prop extends Kp H H' where
  dom : ∀ a, H a ≠ none → H' a ≠ none
theorem Ext.refl (H : Hp) : Ext H H := ⟨Kp.refl H, fun _ h => h⟩
theorem Ext.trans {H H1 H2 : Hp} (a : Ext H H1) (b : Ext H1 H2) : Ext H H2 := ⟨a.toKp.trans b.toKp, fun x h => b.dom x (a.dom x h)⟩
theorem Ext.free {H H' : Hp} (e : Ext H H') {a : Addr} (h : H' a = none) : H a = none := by
  cases q : H a with
  | none => rfl
  | some o => exact absurd h (e.dom a (by rw [q]; exact fun z => nomatch z))
theorem Ext.new {H : Hp} {p : Addr} {o : HO} (h : H p = none) : Ext H (upd H p o) := ⟨Kp.sub fun a u e => by
    rw [upd_ne (ne_of_none e h)]
    exact e, fun a ha => by
    by_cases hb : a = p
    · rw [hb] at ha
      exact absurd h ha
    · rw [upd_ne hb]
      exact ha⟩
/-- what the entry did not know may change -/
theorem Ext.mut {H H' : Hp} {p : Addr} {o : HO} (e : Ext H H') (h : H p = none) : Ext H (upd H' p o) := ⟨⟨fun a u ha n => by
    rw [upd_ne (ne_of_none ha h)]
    exact e.keep a u ha n, fun a n ha => by
    rw [upd_ne (ne_of_none ha h)]
    exact e.pz a n ha⟩, fun a ha => by
    by_cases hb : a = p
    · rw [hb] at ha
      exact absurd h ha
    · rw [upd_ne hb]
      exact e.dom a ha⟩

/-! ### trees of objects that nothing else knows -/
inductive Nd where
  | lst | dct (ks : List Key) | dtt (ks : List (List Key)) | ins (C : Addr) (ks : List Str)
def Nd.ho : Nd → List V → HO → Prop
  | .lst, vs, o => o = .lst vs
  | .dct ks, vs, o => ks.length = vs.length ∧ o = .dK (ks.zip vs)
  | .dtt ks, vs, o => ks.length = vs.length ∧ o = .dT (ks.zip vs)
  | .ins C ks, vs, o => ks.length = vs.length ∧ ∃ dx, o = .ins C dx (ks.zip vs)
def Nd.d : Nd → List D → D
  | .lst, ds => .lst ds
  | .dct ks, ds => .dct (ks.zip ds)
  | .dtt ks, ds => .dtt (ks.zip ds)
  | .ins C ks, ds => .ins C (ks.zip ds)
theorem Nd.noext {n : Nd} {vs : List V} {o : HO} (h : n.ho vs o) : ∀ φ, o ≠ .ext φ := by
  cases n with
  | lst => intro φ z; rw [show o = _ from h] at z; cases z
  | dct ks => intro φ z; rw [show o = _ from h.2] at z; cases z
  | dtt ks => intro φ z; rw [show o = _ from h.2] at z; cases z
  | ins C ks => intro φ z; obtain ⟨_, dx, h⟩ := h; rw [h] at z; cases z
section
variable {K : PySem.W.Frag} {H : Hp}
theorem rpk_zip : ∀ {ks : List Key} {vs : List V} {ds : List D}, RpA K H vs ds → RpK K H (ks.zip vs) (ks.zip ds)
  | [], _, _, _ => by simp; exact .nil
  | k :: ks, _, _, .nil => by simp; exact .nil
  | k :: ks, _, _, .cons p q => .cons p (rpk_zip q)
theorem rpt_zip : ∀ {ks : List (List Key)} {vs : List V} {ds : List D}, RpA K H vs ds → RpT K H (ks.zip vs) (ks.zip ds)
  | [], _, _, _ => by simp; exact .nil
  | k :: ks, _, _, .nil => by simp; exact .nil
  | k :: ks, _, _, .cons p q => .cons p (rpt_zip q)
theorem rpf_zip : ∀ {ks : List Str} {vs : List V} {ds : List D}, RpA K H vs ds → RpF K H (ks.zip vs) (ks.zip ds)
  | [], _, _, _ => by simp; exact .nil
  | k :: ks, _, _, .nil => by simp; exact .nil
  | k :: ks, _, _, .cons p q => .cons p (rpf_zip q)
theorem Nd.rp {n : Nd} {a : Addr} {o : HO} {vs : List V} {ds : List D} (ha : H a = some o) (h : n.ho vs o) (r : RpA K H vs ds) : Rp K H (.ref a) (n.d ds) := by
  cases n with
  | lst => rw [show o = _ from h] at ha; exact .lst ha r
  | dct ks => rw [show o = _ from h.2] at ha; exact .dct ha (rpk_zip r)
  | dtt ks => rw [show o = _ from h.2] at ha; exact .dtt ha (rpt_zip r)
  | ins C ks => obtain ⟨_, dx, h⟩ := h; rw [h] at ha; exact .ins ha (rpf_zip r)
end
inductive Tree where
  | leaf (d : D) | node (n : Nd) (ts : List Tree)
mutual
def Tree.d : Tree → D
  | .leaf d => d
  | .node n ts => n.d (Tree.dL ts)
def Tree.dL : List Tree → List D
  | [] => []
  | t :: ts => t.d :: Tree.dL ts
end
mutual
/-- v is such a tree, its own objects at F; the leaves lie outside M -/
inductive Tr (K : PySem.W.Frag) (M : Addr → Prop) (H : Hp) : V → Tree → List Addr → Prop
  | leaf {v : V} {d : D} : Rp K (msk M H) v d → Tr K M H v (.leaf d) []
  | node {a : Addr} {o : HO} {n : Nd} {vs : List V} {ts : List Tree} {F : List Addr} : H a = some o → n.ho vs o → TrL K M H vs ts F → Tr K M H (.ref a) (.node n ts) (a :: F)
inductive TrL (K : PySem.W.Frag) (M : Addr → Prop) (H : Hp) : List V → List Tree → List Addr → Prop
  | nil : TrL K M H [] [] []
  | cons {v : V} {t : Tree} {vs : List V} {ts : List Tree} {F1 F2 : List Addr} : Tr K M H v t F1 → TrL K M H vs ts F2 → TrL K M H (v :: vs) (t :: ts) (F1 ++ F2)
end
section
variable {K : PySem.W.Frag} {M M' : Addr → Prop} {H H' : Hp}
mutual
theorem Tr.chg (k : Kp (msk M H) (msk M' H')) : ∀ {v : V} {t : Tree} {F : List Addr}, Tr K M H v t F → (∀ a ∈ F, ∀ o, H a = some o → (∀ φ, o ≠ .ext φ) → H' a = some o) → Tr K M' H' v t F
  | _, _, _, .leaf r, _ => .leaf (r.mono k)
  | _, _, _, .node ha h q, hF => .node (hF _ List.mem_cons_self _ ha (Nd.noext h)) h (TrL.chg k q fun a m => hF a (List.mem_cons_of_mem _ m))
theorem TrL.chg (k : Kp (msk M H) (msk M' H')) : ∀ {vs : List V} {ts : List Tree} {F : List Addr}, TrL K M H vs ts F → (∀ a ∈ F, ∀ o, H a = some o → (∀ φ, o ≠ .ext φ) → H' a = some o) → TrL K M' H' vs ts F
  | _, _, _, .nil, _ => .nil
  | _, _, _, .cons p q, hF => .cons (Tr.chg k p fun a m => hF a (List.mem_append_left _ m)) (TrL.chg k q fun a m => hF a (List.mem_append_right _ m))
end
mutual
/-- as data -/
theorem Tr.rp (k : Kp (msk M H) (msk M' H')) : ∀ {v : V} {t : Tree} {F : List Addr}, Tr K M H v t F → (∀ a ∈ F, ∀ o, H a = some o → (∀ φ, o ≠ .ext φ) → msk M' H' a = some o) → Rp K (msk M' H') v t.d
  | _, _, _, .leaf r, _ => by unfold Tree.d; exact r.mono k
  | _, _, _, .node ha h q, hF => by unfold Tree.d; exact Nd.rp (hF _ List.mem_cons_self _ ha (Nd.noext h)) h (TrL.rp k q fun a m => hF a (List.mem_cons_of_mem _ m))
theorem TrL.rp (k : Kp (msk M H) (msk M' H')) : ∀ {vs : List V} {ts : List Tree} {F : List Addr}, TrL K M H vs ts F → (∀ a ∈ F, ∀ o, H a = some o → (∀ φ, o ≠ .ext φ) → msk M' H' a = some o) → RpA K (msk M' H') vs (Tree.dL ts)
  | _, _, _, .nil, _ => by unfold Tree.dL; exact .nil
  | _, _, _, .cons p q, hF => by unfold Tree.dL; exact .cons (Tr.rp k p fun a m => hF a (List.mem_append_left _ m)) (TrL.rp k q fun a m => hF a (List.mem_append_right _ m))
end
mutual
theorem Tr.liv : ∀ {v : V} {t : Tree} {F : List Addr}, Tr K M H v t F → ∀ a ∈ F, H a ≠ none
  | _, _, _, .leaf _, a, m => by cases m
  | _, _, _, .node ha h q, a, m => by
    rcases List.mem_cons.mp m with rfl | m
    · rw [ha]; exact fun z => nomatch z
    · exact TrL.liv q a m
theorem TrL.liv : ∀ {vs : List V} {ts : List Tree} {F : List Addr}, TrL K M H vs ts F → ∀ a ∈ F, H a ≠ none
  | _, _, _, .nil, a, m => by cases m
  | _, _, _, .cons p q, a, m => by
    rcases List.mem_append.mp m with m | m
    · exact Tr.liv p a m
    · exact TrL.liv q a m
end
end

/-! ### how deep data is our own -/
def full : Nat → D → Tree
  | 0, d => .leaf d
  | n + 1, .lst xs => .node .lst (xs.map (full n))
  | n + 1, .dct kvs => .node (.dct (kvs.map (·.1))) (kvs.map fun p => full n p.2)
  | n + 1, .dtt kvs => .node (.dtt (kvs.map (·.1))) (kvs.map fun p => full n p.2)
  | n + 1, .ins C fs => .node (.ins C (fs.map (·.1))) (fs.map fun p => full n p.2)
  | _ + 1, d => .leaf d
theorem dL_map {α : Type} (f : α → Tree) : ∀ xs : List α, Tree.dL (xs.map f) = xs.map fun x => (f x).d
  | [] => by simp [Tree.dL]
  | x :: xs => by rw [List.map_cons, Tree.dL, dL_map f xs]; rfl
theorem zip_map' {α β γ : Type} (f : γ → α) (g : γ → β) : ∀ l : List γ, (l.map f).zip (l.map g) = l.map fun x => (f x, g x)
  | [] => rfl
  | x :: l => by simp [zip_map' f g l]
theorem full_d : ∀ (n : Nat) (d : D), (full n d).d = d
  | 0, d => rfl
  | n + 1, .lst xs => by
    show Nd.d .lst (Tree.dL (xs.map (full n))) = _
    rw [dL_map]
    show D.lst _ = D.lst _
    congr 1
    exact (List.map_congr_left fun x _ => full_d n x).trans (List.map_id' xs)
  | n + 1, .dct kvs => by
    show Nd.d (.dct _) (Tree.dL (kvs.map fun p => full n p.2)) = _
    rw [dL_map]
    show D.dct _ = D.dct _
    rw [zip_map']
    congr 1
    exact (List.map_congr_left fun x _ => by rw [full_d n x.2]).trans (List.map_id' kvs)
  | n + 1, .dtt kvs => by
    show Nd.d (.dtt _) (Tree.dL (kvs.map fun p => full n p.2)) = _
    rw [dL_map]
    show D.dtt _ = D.dtt _
    rw [zip_map']
    congr 1
    exact (List.map_congr_left fun x _ => by rw [full_d n x.2]).trans (List.map_id' kvs)
  | n + 1, .ins C fs => by
    show Nd.d (.ins C _) (Tree.dL (fs.map fun p => full n p.2)) = _
    rw [dL_map]
    show D.ins C _ = D.ins C _
    rw [zip_map']
    congr 1
    exact (List.map_congr_left fun x _ => by rw [full_d n x.2]).trans (List.map_id' fs)
  | _ + 1, .non => rfl
  | _ + 1, .bl _ => rfl
  | _ + 1, .int _ => rfl
  | _ + 1, .str _ => rfl
  | _ + 1, .tup _ => rfl
  | _ + 1, .exc _ _ => rfl
  | _ + 1, .purse => rfl
  | _ + 1, .scr _ => rfl
  | _ + 1, .ref _ => rfl
  | _ + 1, .ty _ => rfl
/-! ### slots by data -/
inductive Sd where
  | un | dat (d : D) | own (ds : List D) | tre (t : Tree) (F : List Addr) | par (a : Addr) (ds : List D)
def isOwn : Sd → Bool
  | .own _ => true
  | .tre _ _ => true
  | .par _ _ => true
  | _ => false
/-- the objects that belong to a slot -/
def Sd.adr (s : Option V) : Sd → Addr → Prop
  | .own _, a => s = some (.ref a)
  | .par _ _, a => s = some (.ref a)
  | .tre _ F, a => a ∈ F
  | _, _ => False
theorem adr_own {s : Option V} {e : Sd} {a : Addr} (h : e.adr s a) : isOwn e = true := by
  cases e <;> first | rfl | cases h
def At (σ : List (Option V)) (ds : List Sd) (i : Nat) (a : Addr) : Prop := ∃ s e, σ[i]? = some s ∧ ds[i]? = some e ∧ e.adr s a
def SlOk (K : PySem.W.Frag) (M : Addr → Prop) (H : Hp) (s : Option V) : Sd → Prop
  | .un => True
  | .dat d => ∃ v, s = some v ∧ Rp K (msk M H) v d
  | .own ds => ∃ a vs, s = some (.ref a) ∧ M a ∧ H a = some (.lst vs) ∧ RpA K (msk M H) vs ds
  | .par a ds => ∃ vs, s = some (.ref a) ∧ M a ∧ H a = some (.lst vs) ∧ RpA K (msk M H) vs ds
  | .tre t F => ∃ v, s = some v ∧ (∀ a ∈ F, M a) ∧ F.Nodup ∧ Tr K M H v t F
/-- the state of a def at H: entered at H0 with the mask M0; M: what may not be handed on; b: how many draws are left -/
structure Stt (K : PySem.W.Frag) (H0 : Hp) (M0 : Addr → Prop) (gs : List (V × D)) (M : Addr → Prop) (b : Nat) (H : Hp) (σ : List (Option V)) (ds : List Sd) : Prop where
  ext : Ext H0 H
  m0 : ∀ a, M0 a → M a
  new : ∀ a, M a → ¬ M0 a → H0 a = none
  liv : ∀ a, M a → H a ≠ none
  lim : Lim b H
  len : σ.length = ds.length
  sl : ∀ (i : Nat) (s : Option V) (d : Sd), σ[i]? = some s → ds[i]? = some d → SlOk K M H s d
  inj : ∀ (i j : Nat) (a : Addr), At σ ds i a → At σ ds j a → i = j
  ownNew : ∀ (i : Nat) (a : Addr), At σ ds i a → ¬ M0 a
  gh : ∀ q ∈ gs, Rp K (msk M H) q.1 q.2
section
variable {K : PySem.W.Frag} {H0 H H' : Hp} {M0 M M' : Addr → Prop} {b b' : Nat} {σ : List (Option V)} {ds : List Sd} {gs : List (V × D)}
theorem SlOk.m {s : Option V} {e : Sd} {a : Addr} (h : SlOk K M H s e) (q : e.adr s a) : M a := by
  cases e with
  | un => cases q
  | dat d => cases q
  | own ds => obtain ⟨a', vs, h1, h2, _⟩ := h; rw [h1] at q; cases q; exact h2
  | par a' ds => obtain ⟨vs, h1, h2, _⟩ := h; rw [h1] at q; cases q; exact h2
  | tre t F => obtain ⟨v, h1, h2, _⟩ := h; exact h2 a q
theorem SlOk.chg {s : Option V} {e : Sd} (k : Kp (msk M H) (msk M' H')) (hM : ∀ a, e.adr s a → M a → M' a) (hH : ∀ a o, e.adr s a → H a = some o → (∀ φ, o ≠ .ext φ) → H' a = some o) (h : SlOk K M H s e) : SlOk K M' H' s e := by
  cases e with
  | un => trivial
  | dat d => obtain ⟨v, h1, h2⟩ := h; exact ⟨v, h1, h2.mono k⟩
  | own ds => obtain ⟨a, vs, h1, h2, h3, h4⟩ := h; exact ⟨a, vs, h1, hM a h1 h2, hH a _ h1 h3 (fun _ z => nomatch z), h4.mono k⟩
  | par a ds => obtain ⟨vs, h1, h2, h3, h4⟩ := h; exact ⟨vs, h1, hM a h1 h2, hH a _ h1 h3 (fun _ z => nomatch z), h4.mono k⟩
  | tre t F => obtain ⟨v, h1, h2, h3, h4⟩ := h; exact ⟨v, h1, fun a m => hM a m (h2 a m), h3, h4.chg k fun a m o ho n => hH a o m ho n⟩
theorem SlOk.mono {s : Option V} {d : Sd} (e : Kp H H') (h : SlOk K M H s d) : SlOk K M H' s d := h.chg (msk_mono e) (fun _ _ q => q) fun a o _ ho n => e.keep a o ho n
theorem at_set {i j : Nat} {s : Option V} {e : Sd} {a : Addr} (h : At (σ.set i s) (ds.set i e) j a) : (j = i ∧ e.adr s a) ∨ (j ≠ i ∧ At σ ds j a) := by
  obtain ⟨s', e', h1, h2, h3⟩ := h
  by_cases hj : i = j
  · subst hj
    have hi : i < σ.length := by simpa using (List.getElem?_eq_some_iff.mp h1).1
    have hi2 : i < ds.length := by simpa using (List.getElem?_eq_some_iff.mp h2).1
    rw [List.getElem?_set_self hi] at h1
    rw [List.getElem?_set_self hi2] at h2
    cases h1
    cases h2
    exact .inl ⟨rfl, h3⟩
  · rw [List.getElem?_set_ne hj] at h1 h2
    exact .inr ⟨Ne.symm hj, s', e', h1, h2, h3⟩
theorem at_setD {i j : Nat} {s : Option V} {e : Sd} {a : Addr} (hs : σ[i]? = some s) (h : At σ (ds.set i e) j a) : (j = i ∧ e.adr s a) ∨ (j ≠ i ∧ At σ ds j a) := by
  have q : σ.set i s = σ := by
    obtain ⟨hi, e⟩ := List.getElem?_eq_some_iff.mp hs
    rw [← e]
    exact List.set_getElem_self hi
  rw [← q] at h
  rcases at_set h with h | ⟨h1, h2⟩
  · exact .inl h
  · exact .inr ⟨h1, h2⟩
theorem Stt.atM (S : Stt K H0 M0 gs M b H σ ds) {i : Nat} {a : Addr} (h : At σ ds i a) : M a := by
  obtain ⟨s, e, h1, h2, h3⟩ := h
  exact (S.sl i s e h1 h2).m h3
/-- behind an expression -/
theorem Stt.step (S : Stt K H0 M0 gs M b H σ ds) (e : Ext H H') (l : Lim b' H') : Stt K H0 M0 gs M b' H' σ ds :=
  ⟨S.ext.trans e, S.m0, S.new, fun a h => e.dom a (S.liv a h), l, S.len, fun i s d h1 h2 => (S.sl i s d h1 h2).mono e.toKp, S.inj, S.ownNew, fun q hq => (S.gh q hq).mono (msk_mono e.toKp)⟩
theorem Stt.weak (S : Stt K H0 M0 gs M b H σ ds) (h : b' ≤ b) : Stt K H0 M0 gs M b' H σ ds := S.step (Ext.refl H) (S.lim.mono h)
theorem Stt.var (S : Stt K H0 M0 gs M b H σ ds) {i : Nat} {d : D} (h : ds[i]? = some (.dat d)) : ∃ v, σ[i]? = some (some v) ∧ Rp K (msk M H) v d := by
  have hi : i < σ.length := by
    rw [S.len]
    exact (List.getElem?_eq_some_iff.mp h).1
  obtain ⟨v, e, r⟩ := S.sl i _ _ (List.getElem?_eq_getElem hi) h
  exact ⟨v, by rw [List.getElem?_eq_getElem hi, e], r⟩
theorem Stt.ownL (S : Stt K H0 M0 gs M b H σ ds) {i : Nat} {xs : List D} (h : ds[i]? = some (.own xs)) : ∃ a vs, σ[i]? = some (some (.ref a)) ∧ M a ∧ H a = some (.lst vs) ∧ RpA K (msk M H) vs xs ∧ ¬ M0 a := by
  have hi : i < σ.length := by
    rw [S.len]
    exact (List.getElem?_eq_some_iff.mp h).1
  obtain ⟨a, vs, e, m, ha, r⟩ := S.sl i _ _ (List.getElem?_eq_getElem hi) h
  have es : σ[i]? = some (some (.ref a)) := by rw [List.getElem?_eq_getElem hi, e]
  exact ⟨a, vs, es, m, ha, r, S.ownNew i a ⟨_, _, es, h, rfl⟩⟩
theorem Stt.parL (S : Stt K H0 M0 gs M b H σ ds) {i : Nat} {a : Addr} {xs : List D} (h : ds[i]? = some (.par a xs)) : ∃ vs, σ[i]? = some (some (.ref a)) ∧ M a ∧ H a = some (.lst vs) ∧ RpA K (msk M H) vs xs ∧ ¬ M0 a := by
  have hi : i < σ.length := by
    rw [S.len]
    exact (List.getElem?_eq_some_iff.mp h).1
  obtain ⟨vs, e, m, ha, r⟩ := S.sl i _ _ (List.getElem?_eq_getElem hi) h
  have es : σ[i]? = some (some (.ref a)) := by rw [List.getElem?_eq_getElem hi, e]
  exact ⟨vs, es, m, ha, r, S.ownNew i a ⟨_, _, es, h, rfl⟩⟩
/-- a slot gets something; what belongs to it -/
theorem Stt.setW (S : Stt K H0 M0 gs M b H σ ds) {i : Nat} {s : Option V} {e : Sd} (ok : SlOk K M H s e) (ho : ∀ a, e.adr s a → False) : Stt K H0 M0 gs M b H (σ.set i s) (ds.set i e) := by
  refine ⟨S.ext, S.m0, S.new, S.liv, S.lim, by rw [List.length_set, List.length_set, S.len], fun j s' e' h1 h2 => ?_, fun j k a h1 h2 => ?_, fun j a h1 => ?_, S.gh⟩
  · by_cases hj : i = j
    · subst hj
      have hi : i < σ.length := by simpa using (List.getElem?_eq_some_iff.mp h1).1
      rw [List.getElem?_set_self hi] at h1
      rw [List.getElem?_set_self (by rw [← S.len]; exact hi)] at h2
      cases h1
      cases h2
      exact ok
    · rw [List.getElem?_set_ne hj] at h1 h2
      exact S.sl j s' e' h1 h2
  · rcases at_set h1 with ⟨_, h1⟩ | ⟨_, h1⟩
    · exact (ho a h1).elim
    · rcases at_set h2 with ⟨_, h2⟩ | ⟨_, h2⟩
      · exact (ho a h2).elim
      · exact S.inj j k a h1 h2
  · rcases at_set h1 with ⟨_, h1⟩ | ⟨_, h1⟩
    · exact (ho a h1).elim
    · exact S.ownNew j a h1
/-- a slot gets data -/
theorem Stt.set (S : Stt K H0 M0 gs M b H σ ds) {i : Nat} {v : V} {d : D} (r : Rp K (msk M H) v d) : Stt K H0 M0 gs M b H (σ.set i (some v)) (ds.set i (.dat d)) := S.setW ⟨v, rfl, r⟩ fun _ z => z
/-- a slot is forgotten -/
theorem Stt.forget (S : Stt K H0 M0 gs M b H σ ds) (i : Nat) (s : Option V) : Stt K H0 M0 gs M b H (σ.set i s) (ds.set i .un) := S.setW trivial fun _ z => z
end
end Sh

/-! Sh2: further rules over HandS: powers of great numbers, calls with keywords whose errors are wished for at the slots, operators of several kinds at once. -/
namespace Sh
open PySem PySem.Spec PyProof.Rows L2

/-! ### arithmetic of any size -/
def CPowW (i j : Int) : Prop := 0 ≤ j ∧ (Builtin.Int.intBits i : Int) * j ≤ 2 ^ 27
section
variable {X : Cx}
theorem op_powW : OpR X (binaryOp .Pow) (rI CPowW fun i j => .int (i ^ j.toNat)) := opI fun _ _ _ _ _ _ _ hc q => pow_int hc.1 hc.2 q
theorem op_and' {r : R2} {f : Value → Value → Sem Value} (h : OpR X f r) : OpR X f r := h
end

/-! ### calls -/
/-- how n positional values and keywords ks are bound -/
structure Kb (K : PySem.W.Frag) (fd : FuncData) (ps : List Str) (n : Nat) (ks : List Str) (gV : List V → List V → List V) : Prop where
  to : ∀ (s : Shared) (us ws : List Value) (vs zs : List V), K.In s.heap → Vals vs us → Vals zs ws → vs.length = n → zs.length = ks.length → ∃ xs, Vals (gV vs zs) xs ∧ BindsTo s fd ⟨us, ks.zip ws⟩ (ps.zip xs)
def tCl (n m : Nat) (sp : Sp) (gV : List V → List V → List V) (E : L2.St → XK) (t tk : TA) : TE := fun σ H Q => t σ H fun vs H1 => tk σ H1 fun zs H2 => vs.length = n ∧ zs.length = m ∧ sp (gV vs zs) H2 Q (E σ)
section
variable {X : Cx} {CX : CXT} {k n m : Nat} {f : Addr} {fd : FuncData} {ps ks : List Str} {sp : Sp} {E : L2.St → XK} {x : Str} {p pos : Pos} {e : Expr} {es : List Expr} {kws : List Keyword} {t tk : TA} {gV : List V → List V → List V}
theorem run_cl {pins : List (Addr × Obj)} {σ : L2.St} {H : Hp} {s : Shared} {Q : VK} {us ws : List Value} {vs zs : List V} (F : FnOk X.prog X.w X.K X.mg X.base CX k f fd ps sp) (hr : Room k X.A) (hb : Kb X.K fd ps n ks gV) (hx : PassesAt CX X σ (E σ))
    (I : Inv X pins σ H s) (r : Vals vs us) (rz : Vals zs ws) (l1 : vs.length = n) (l2 : zs.length = ks.length) (h : sp (gV vs zs) H Q (E σ)) : wpAny (model X.prog X.w) X.A (call (.ref f) us (ks.zip ws)) (EP X pins σ Q) X.xe s := by
  obtain ⟨xs, r2, b⟩ := hb.to s us ws vs zs I.kIn r rz l1 l2
  refine wpAny_call (codeAny_mono (F.run X.A X.stack s H ⟨us, ks.zip ws⟩ xs (gV vs zs) Q (E σ) hr I.env0 b r2 h) fun r s' hq => ?_)
  cases r with
  | error e => exact hx pins H s e s' I hq
  | ok fl =>
    cases fl with
    | ret u => exact I.after hq
    | next => exact False.elim hq
    | brk => exact False.elim hq
    | cont => exact False.elim hq
/-- f(e, .., k = v, ..) -/
theorem pe_cl (F : FnOk X.prog X.w X.K X.mg X.base CX k f fd ps sp) (hr : Room k X.A) (hg : Gl X x) (hm : X.mg x = some (.ref f)) (hk : PySem.W.keepIn X.K (.ref f) = true) (hb : Kb X.K fd ps n ks gV) (hx : ∀ σ, PassesAt CX X σ (E σ))
    (ha : PA X (e :: es) t) (hkw : PK X kws tk) (hmm : ks.length = m := by rfl) (hall : (backToKw pos (keywordEach kws X.env)).all (·.1.isSome) = true := by rfl) (hks : (backToKw pos (keywordEach kws X.env)).filterMap (·.1) = ks := by rfl)
    (hdb : (x == ("__debug__" : Str)) = false := by decide) (he : starEach (e :: es) X.env = (false, eval e X.env) :: starEach es X.env := by rfl)
    (hpl : ((backTo pos (starEach (e :: es) X.env)).any (·.1) || (backToKw pos (keywordEach kws X.env)).any (·.1.isNone)) = false := by rfl) :
    PE X (.Call (.Name x p) (e :: es) kws pos) (tCl n m sp gV E t tk) := by
  refine ⟨fun pins s σ H Q I h => ?_⟩
  refine wpAny_Call_Name_kw (ld_glob I hg hm ?_ hdb)
  refine PySem.W.callWith_KW (h₀ := X.base) I.ok.mod.kin hk hall (thn (ha.run pos pins s σ H _ I h) fun us s1 ⟨vs, H1, I1, r, q⟩ => ?_) hpl he
  refine thn (hkw.run pos pins s1 σ H1 _ I1 q) fun ws s2 ⟨zs, H2, I2, rz, l1, l2, q2⟩ => ⟨I2.kIn, ?_⟩
  rw [hks]
  exact run_cl F hr hb (hx σ) I2 r rz l1 (l2.trans hmm.symm) q2
/-- f(k = v, ..), f() -/
theorem pe_cl0 (F : FnOk X.prog X.w X.K X.mg X.base CX k f fd ps sp) (hr : Room k X.A) (hg : Gl X x) (hm : X.mg x = some (.ref f)) (hk : PySem.W.keepIn X.K (.ref f) = true) (hb : Kb X.K fd ps 0 ks gV) (hx : ∀ σ, PassesAt CX X σ (E σ))
    (hkw : PK X kws tk) (hmm : ks.length = m := by rfl) (hall : (backToKw pos (keywordEach kws X.env)).all (·.1.isSome) = true := by rfl) (hks : (backToKw pos (keywordEach kws X.env)).filterMap (·.1) = ks := by rfl)
    (hdb : (x == ("__debug__" : Str)) = false := by decide)
    (hpl : ((backTo pos (starEach [] X.env)).any (·.1) || (backToKw pos (keywordEach kws X.env)).any (·.1.isNone)) = false := by rfl) :
    PE X (.Call (.Name x p) [] kws pos) (tCl 0 m sp gV E tNil tk) := by
  refine ⟨fun pins s σ H Q I h => ?_⟩
  refine wpAny_Call_Name_kw (ld_glob I hg hm ?_ hdb)
  refine PySem.W.callWith_KW0 (h₀ := X.base) I.ok.mod.kin hk hall ?_ hpl
  refine thn (hkw.run pos pins s σ H _ I h) fun ws s2 ⟨zs, H2, I2, rz, l1, l2, q2⟩ => ⟨I2.kIn, ?_⟩
  rw [hks]
  exact run_cl (us := []) (vs := []) F hr hb (hx σ) I2 .nil rz rfl (l2.trans hmm.symm) q2
/-- every parameter is written, no keywords -/
theorem Kb.all {K : PySem.W.Frag} {fd : FuncData} {ps : List Str} (b : Binds K fd ps []) : Kb K fd ps ps.length [] (fun vs _ => vs) := ⟨fun s us ws vs zs X r rz l1 l2 => by
  cases zs with
  | cons _ _ => cases l2
  | nil =>
    cases rz
    have h := b s us X (by rw [List.append_nil, ← r.length, l1])
    rw [List.append_nil] at h
    exact ⟨us, r, h⟩⟩
end

/-! ### errors -/
/-- what is raised goes on as the def's own wish says -/
abbrev WD (E : XK) : WX := fun cls d _ H => E cls d H
theorem passD {X : Cx} {W : WX} (tk : Takes X W) : ∀ σ, PassesAt (L2.CX X.prog X.w) X σ (WE W σ) := fun σ => passAt tk σ
theorem pass_never {X : Cx} : ∀ σ : L2.St, PassesAt (L2.CX X.prog X.w) X σ (fun _ _ _ => False) := fun σ pins H s e s' I c => by
  obtain ⟨a, B, H', cls, d, h1, h2, h3, h4, h5, h6, h7, h8⟩ := c
  exact h8.elim
end Sh

/-! Sh3: what readings do, by data. -/
namespace Sh
open PySem PySem.Spec PyProof.Rows L2

/-- where a def runs: entered at H0, M0 masked; W what is wished for errors, X which errors are allowed where -/
structure Gx where
  K : PySem.W.Frag
  H0 : Hp
  M0 : Addr → Prop
  W : WX
  X : Addr → List (Str × D) → List Sd → Nat → Prop
  pm : Bool := false
abbrev Gx.st (G : Gx) (gs : List (V × D)) (M : Addr → Prop) (b : Nat) (H : Hp) (σ : List (Option V)) (ds : List Sd) : Prop := Stt G.K G.H0 G.M0 gs M b H σ ds
/-- p: what comes may be kept; else it may be handed back alone -/
def mmk (p : Bool) (M M0 : Addr → Prop) : Addr → Prop := match p with
  | true => M
  | false => M0
/-- the errors that X allows are wished for -/
def Gx.Acc (G : Gx) : Prop := ∀ (gs : List (V × D)) (M : Addr → Prop) (b : Nat) (H : Hp) (σ : List (Option V)) (ds : List Sd) (C dd : Addr) (fsV : List (Str × V)) (fs : List (Str × D)),
  G.st gs M b H σ ds → H dd = some (.xd fsV) → G.H0 dd = none → ¬ M dd → RpF G.K (msk (mmk G.pm M G.M0) H) fsV fs → G.X C fs ds b → G.W (.ref C) (some dd) σ H

def EvS (G : Gx) (p : Bool) (b b' : Nat) (te : TE) (ds : List Sd) (R : D → Prop) : Prop :=
  ∀ gs M H σ, G.st gs M b H σ ds → ∀ Q : VK, (∀ v d H', R d → Ext H H' → Lim b' H' → Rp G.K (msk (mmk p M G.M0) H') v d → Q v H') → te σ H Q
def EvA (G : Gx) (p : Bool) (b b' : Nat) (ta : TA) (ds : List Sd) (R : List D → Prop) : Prop :=
  ∀ gs M H σ, G.st gs M b H σ ds → ∀ Q : List V → Hp → Prop, (∀ vs es H', R es → Ext H H' → Lim b' H' → RpA G.K (msk (mmk p M G.M0) H') vs es → Q vs H') → ta σ H Q
def EvT (G : Gx) (b b' : Nat) (tt : TT) (ds : List Sd) (R : Bool → Prop) : Prop :=
  ∀ gs M H σ, G.st gs M b H σ ds → ∀ Q : Bool → Hp → Prop, (∀ c H', R c → Ext H H' → Lim b' H' → Q c H') → tt σ H Q
/-- one value -/
abbrev EvD (G : Gx) (p : Bool) (b b' : Nat) (te : TE) (ds : List Sd) (d : D) : Prop := EvS G p b b' te ds (fun x => x = d)
abbrev EaD (G : Gx) (p : Bool) (b b' : Nat) (ta : TA) (ds : List Sd) (es : List D) : Prop := EvA G p b b' ta ds (fun x => x = es)
abbrev EtD (G : Gx) (b b' : Nat) (tt : TT) (ds : List Sd) (c : Bool) : Prop := EvT G b b' tt ds (fun x => x = c)

/-- by values: two, some -/
def Op2 (K : PySem.W.Frag) (r : R2) (x y : D) (R : D → Prop) : Prop := ∀ (N : Addr → Prop) (b : Nat) (H : Hp) (v u : V) (Q : VK), (∀ a, N a → H a ≠ none) → Lim b H → Rp K (msk N H) v x → Rp K (msk N H) u y →
  (∀ z d H', R d → Ext H H' → Lim b H' → Rp K (msk N H') z d → Q z H') → r v u H Q
abbrev Op2D (K : PySem.W.Frag) (r : R2) (x y z : D) : Prop := Op2 K r x y (fun d => d = z)
def Op1 (K : PySem.W.Frag) (r : V → Hp → VK → Prop) (x : D) (R : D → Prop) : Prop := ∀ (N : Addr → Prop) (b : Nat) (H : Hp) (v : V) (Q : VK), (∀ a, N a → H a ≠ none) → Lim b H → Rp K (msk N H) v x →
  (∀ z d H', R d → Ext H H' → Lim b H' → Rp K (msk N H') z d → Q z H') → r v H Q
abbrev Op1D (K : PySem.W.Frag) (r : V → Hp → VK → Prop) (x z : D) : Prop := Op1 K r x (fun d => d = z)
def ClA (K : PySem.W.Frag) (r : List V → Hp → VK → Prop) (xs : List D) (R : D → Prop) : Prop := ∀ (N : Addr → Prop) (b : Nat) (H : Hp) (vs : List V) (Q : VK), (∀ a, N a → H a ≠ none) → Lim b H → RpA K (msk N H) vs xs →
  (∀ z d H', R d → Ext H H' → Lim b H' → Rp K (msk N H') z d → Q z H') → r vs H Q
abbrev ClD (K : PySem.W.Frag) (r : List V → Hp → VK → Prop) (xs : List D) (z : D) : Prop := ClA K r xs (fun d => d = z)

section
variable {K : PySem.W.Frag} {H0 H H' : Hp} {M0 M : Addr → Prop} {b b' : Nat} {σ : List (Option V)} {ds : List Sd} {gs : List (V × D)}
theorem Stt.mm (S : Stt K H0 M0 gs M b H σ ds) (p : Bool) : ∀ a, mmk p M M0 a → H a ≠ none := fun a h => by
  cases p with
  | true => exact S.liv a h
  | false => exact S.liv a (S.m0 a h)
theorem Stt.mmW (S : Stt K H0 M0 gs M b H σ ds) {p : Bool} {v : V} {d : D} (h : Rp K (msk M H) v d) : Rp K (msk (mmk p M M0) H) v d := by
  cases p with
  | true => exact h
  | false => exact h.mono (msk_sub S.m0)
/-- something new -/
theorem msk_new {N : Addr → Prop} {p : Addr} {o : HO} (hN : ∀ a, N a → H a ≠ none) (h : H p = none) : msk N (upd H p o) p = some o := by
  rw [msk_no fun z => hN p z h]
  exact upd_same
theorem new_lst {N : Addr → Prop} {p : Addr} {vs : List V} {xs : List D} (hN : ∀ a, N a → H a ≠ none) (h : H p = none) (r : RpA K (msk N H) vs xs) : Rp K (msk N (upd H p (.lst vs))) (.ref p) (.lst xs) :=
  .lst (msk_new hN h) (r.mono (msk_mono (Ext.new h).toKp))
theorem new_tup {N : Addr → Prop} {p : Addr} {vs : List V} {xs : List D} (hN : ∀ a, N a → H a ≠ none) (h : H p = none) (r : RpA K (msk N H) vs xs) : Rp K (msk N (upd H p (.tup vs))) (.ref p) (.tup xs) :=
  .tup (.inl (.inl (msk_new hN h))) (r.mono (msk_mono (Ext.new h).toKp))
theorem sqt_unm {N : Addr → Prop} {a : Addr} {vs : List V} (h : SqT K (msk N H) a vs) : SqT K H a vs := msk_all.seqT h
theorem sql_unm {N : Addr → Prop} {a : Addr} {vs : List V} (h : SqL K (msk N H) a vs) : SqL K H a vs := msk_all.seqL h
/-- what is no object is kept anywhere -/
def flatD : D → Bool
  | .non => true
  | .bl _ => true
  | .int _ => true
  | .str _ => true
  | .ty _ => true
  | .ref _ => true
  | _ => false
theorem Rp.flat {H H' : Hp} {v : V} {d : D} (h : Rp K H v d) (f : flatD d = true) : Rp K H' v d := by
  cases h with
  | non => exact .non
  | bl b => exact .bl b
  | int b => exact .int b
  | str b => exact .str b
  | ref b => exact .ref b
  | ty b => exact .ty b
  | _ => cases f
end

section
variable {G : Gx} {p q : Bool} {b b' b1 b2 : Nat} {te ta tb : TE} {tt tu : TT} {t tk : TA} {ds : List Sd} {R R1 R3 : D → Prop} {R2' : D → D → Prop} {d x y z : D} {r : R2}

/-! ### turning judgements -/
theorem EvS.imp (h : EvS G p b b' te ds R) (i : ∀ d, R d → R1 d) : EvS G p b b' te ds R1 := fun gs M H σ S Q k => h gs M H σ S Q fun v d H' r => k v d H' (i d r)
theorem EvD.to (h : EvD G p b b' te ds d) (i : R d) : EvS G p b b' te ds R := h.imp fun x e => by rw [e]; exact i
theorem EvD.eq (h : EvD G p b b' te ds d) (e : d = x) : EvD G p b b' te ds x := by rw [← e]; exact h
theorem EvT.eq {c c' : Bool} (h : EtD G b b' tt ds c) (e : c = c') : EtD G b b' tt ds c' := by rw [← e]; exact h
/-- what may be kept may be handed back -/
theorem EvS.wk (h : EvS G true b b' te ds R) : EvS G p b b' te ds R := fun gs M H σ S Q k => h gs M H σ S Q fun v d H' r e l rp => by
  refine k v d H' r e l ?_
  cases p with
  | true => exact rp
  | false => exact rp.mono (msk_sub S.m0)
/-- no object: it may be kept -/
theorem EvS.flat (h : EvS G q b b' te ds R) (f : ∀ d, R d → flatD d = true) : EvS G p b b' te ds R := fun gs M H σ S Q k => h gs M H σ S Q fun v d H' r e l rp => k v d H' r e l (rp.flat (f d r))
theorem EvD.flat (h : EvD G false b b' te ds d) (f : flatD d = true) : EvD G p b b' te ds d := EvS.flat h fun x e => by rw [e]; exact f
theorem EvS.less (h : EvS G p b b1 te ds R) (e : b' ≤ b1) : EvS G p b b' te ds R := fun gs M H σ S Q k => h gs M H σ S Q fun v d H' r x l => k v d H' r x (l.mono e)

/-! ### names, constants -/
theorem ev_var {i : Nat} (h : ds[i]? = some (.dat d)) : EvD G p b b (tVar i) ds d := fun gs M H σ S Q k => by
  obtain ⟨v, e, r⟩ := S.var h
  exact ⟨v, e, k v d H rfl (Ext.refl H) S.lim (S.mmW r)⟩
/-- a list of our own, asked but not kept -/
theorem ev_own {i : Nat} {xs : List D} (h : ds[i]? = some (.own xs)) : EvD G false b b (tVar i) ds (.lst xs) := fun gs M H σ S Q k => by
  obtain ⟨a, vs, e, m, ha, r, n0⟩ := S.ownL h
  refine ⟨.ref a, e, k _ _ H rfl (Ext.refl H) S.lim ?_⟩
  refine .lst ?_ (r.mono (msk_sub S.m0))
  show msk G.M0 H a = some (.lst vs)
  rw [msk_no n0]
  exact ha
/-- a list that was handed in to be changed -/
theorem ev_par {i : Nat} {a : Addr} {xs : List D} (h : ds[i]? = some (.par a xs)) : EvD G false b b (tVar i) ds (.lst xs) := fun gs M H σ S Q k => by
  obtain ⟨vs, e, m, ha, r, n0⟩ := S.parL h
  refine ⟨.ref a, e, k _ _ H rfl (Ext.refl H) S.lim ?_⟩
  refine .lst ?_ (r.mono (msk_sub S.m0))
  show msk G.M0 H a = some (.lst vs)
  rw [msk_no n0]
  exact ha
theorem ev_int {i : Int} : EvD G p b b (tC (.int i)) ds (.int i) := fun gs M H σ S Q k => k _ _ H rfl (Ext.refl H) S.lim (.int i)
theorem ev_bl {i : Bool} : EvD G p b b (tC (.bl i)) ds (.bl i) := fun gs M H σ S Q k => k _ _ H rfl (Ext.refl H) S.lim (.bl i)
theorem ev_non : EvD G p b b (tC .non) ds .non := fun gs M H σ S Q k => k _ _ H rfl (Ext.refl H) S.lim .non
theorem ev_str {i : Str} : EvD G p b b (tC (.str i)) ds (.str i) := fun gs M H σ S Q k => k _ _ H rfl (Ext.refl H) S.lim (.str i)
/-- a constant of the module: a tuple of the written part -/
theorem ev_ktup {a : Addr} {xs : List D} (h : ∀ H : Hp, Rp G.K H (.ref a) (.tup xs)) : EvD G p b b (tC (.ref a)) ds (.tup xs) := fun gs M H σ S Q k => k _ _ H rfl (Ext.refl H) S.lim (h _)
theorem ev_ref {a : Addr} : EvD G p b b (tC (.ref a)) ds (.ref a) := fun gs M H σ S Q k => k _ _ H rfl (Ext.refl H) S.lim (.ref a)

/-! ### operators -/
theorem evs_op (h1 : EvS G p b b1 ta ds R1) (h2 : ∀ x, R1 x → EvS G p b1 b2 tb ds (R2' x)) (h3 : ∀ x y, R1 x → R2' x y → Op2 G.K r x y R) : EvS G p b b2 (tOp r ta tb) ds R := fun gs M H σ S Q k =>
  h1 gs M H σ S _ fun v x H1 rx e1 l1 rp1 => h2 x rx gs M H1 σ (S.step e1 l1) _ fun u y H2 ry e2 l2 rp2 => by
    have S2 := (S.step e1 l1).step e2 l2
    exact h3 x y rx ry (mmk p M G.M0) b2 H2 v u Q (S2.mm p) l2 (rp1.mono (msk_mono e2.toKp)) rp2 fun z d H3 rd e3 l3 rp3 => k z d H3 rd ((e1.trans e2).trans e3) l3 rp3
theorem ev_op (h1 : EvD G p b b1 ta ds x) (h2 : EvD G p b1 b2 tb ds y) (h3 : Op2D G.K r x y z) : EvD G p b b2 (tOp r ta tb) ds z :=
  evs_op h1 (fun _ _ => h2) fun _ _ e1 e2 => by rw [e1, e2]; exact h3
theorem evs_un {r : V → Hp → VK → Prop} (h1 : EvS G p b b1 ta ds R1) (h3 : ∀ x, R1 x → Op1 G.K r x R) : EvS G p b b1 (tUn r ta) ds R := fun gs M H σ S Q k =>
  h1 gs M H σ S _ fun v x H1 rx e1 l1 rp1 => h3 x rx (mmk p M G.M0) b1 H1 v Q ((S.step e1 l1).mm p) l1 rp1 fun z d H3 rd e3 l3 rp3 => k z d H3 rd (e1.trans e3) l3 rp3
theorem ev_un {r : V → Hp → VK → Prop} (h1 : EvD G p b b1 ta ds x) (h3 : Op1D G.K r x z) : EvD G p b b1 (tUn r ta) ds z := evs_un h1 fun _ e => by rw [e]; exact h3

/-! ### argument lists, displays -/
theorem ea_nil : EaD G p b b tNil ds [] := fun gs M H σ S Q k => k [] [] H rfl (Ext.refl H) S.lim .nil
theorem eas_cons {R1 : D → Prop} {R2 : D → List D → Prop} (h1 : EvS G p b b1 te ds R1) (h2 : ∀ x, R1 x → EvA G p b1 b2 t ds (R2 x)) : EvA G p b b2 (tCons te t) ds (fun es => ∃ x r, es = x :: r ∧ R1 x ∧ R2 x r) := fun gs M H σ S Q k =>
  h1 gs M H σ S _ fun v x H1 rx e1 l1 rp1 => h2 x rx gs M H1 σ (S.step e1 l1) _ fun vs es H2 ry e2 l2 rp2 => k (v :: vs) (x :: es) H2 ⟨x, es, rfl, rx, ry⟩ (e1.trans e2) l2 (.cons (rp1.mono (msk_mono e2.toKp)) rp2)
theorem ea_cons {es : List D} (h1 : EvD G p b b1 te ds x) (h2 : EaD G p b1 b2 t ds es) : EaD G p b b2 (tCons te t) ds (x :: es) := fun gs M H σ S Q k =>
  eas_cons (R2 := fun _ r => r = es) h1 (fun _ _ => h2) gs M H σ S Q fun vs fs H' ⟨y, r, e, e1, e2⟩ => by
    subst e1 e2 e
    exact k vs _ H' rfl
theorem EaD.eq {es fs : List D} (h : EaD G p b b' t ds es) (e : es = fs) : EaD G p b b' t ds fs := by rw [← e]; exact h
theorem evs_lst {R1 : List D → Prop} (h : EvA G p b b' t ds R1) (hl : ∀ es, R1 es → es.length ≤ 100000) : EvS G p b b' (tLst t) ds (fun d => ∃ es, d = .lst es ∧ R1 es) := fun gs M H σ S Q k =>
  h gs M H σ S _ fun vs es H1 r1 e1 l1 rp => ⟨by rw [rp.length]; exact Nat.le_trans (hl es r1) (by decide), fun a ha => k _ _ _ ⟨es, rfl, r1⟩ (e1.trans (Ext.new ha)) (l1.upd fun _ z => nomatch z) (new_lst ((S.step e1 l1).mm p) ha rp)⟩
theorem ev_lst {es : List D} (h : EaD G p b b' t ds es) (hl : es.length ≤ 100000 := by decide) : EvD G p b b' (tLst t) ds (.lst es) :=
  (evs_lst h fun fs e => by rw [e]; exact hl).imp fun d ⟨fs, e1, e2⟩ => by rw [e1, e2]
theorem evs_tup {R1 : List D → Prop} (h : EvA G p b b' t ds R1) (hl : ∀ es, R1 es → es.length ≤ 100000) : EvS G p b b' (tTup t) ds (fun d => ∃ es, d = .tup es ∧ R1 es) := fun gs M H σ S Q k =>
  h gs M H σ S _ fun vs es H1 r1 e1 l1 rp => ⟨by rw [rp.length]; exact Nat.le_trans (hl es r1) (by decide), fun a ha => k _ _ _ ⟨es, rfl, r1⟩ (e1.trans (Ext.new ha)) (l1.upd fun _ z => nomatch z) (new_tup ((S.step e1 l1).mm p) ha rp)⟩
theorem ev_tup {es : List D} (h : EaD G p b b' t ds es) (hl : es.length ≤ 100000 := by decide) : EvD G p b b' (tTup t) ds (.tup es) :=
  (evs_tup h fun fs e => by rw [e]; exact hl).imp fun d ⟨fs, e1, e2⟩ => by rw [e1, e2]
/-- a call of what is known -/
theorem evs_cb {rr : List V → Hp → VK → Prop} {R1 : List D → Prop} (h : EvA G p b b' t ds R1) (h3 : ∀ es, R1 es → ClA G.K rr es R) : EvS G p b b' (tCB rr t) ds R := fun gs M H σ S Q k =>
  h gs M H σ S _ fun vs es H1 r1 e1 l1 rp => h3 es r1 (mmk p M G.M0) b' H1 vs Q ((S.step e1 l1).mm p) l1 rp fun z d H3 rd e3 l3 rp3 => k z d H3 rd (e1.trans e3) l3 rp3
theorem ev_cb {rr : List V → Hp → VK → Prop} {es : List D} (h : EaD G p b b' t ds es) (h3 : ClD G.K rr es z) : EvD G p b b' (tCB rr t) ds z := evs_cb h fun _ e => by rw [e]; exact h3

/-! ### tests -/
theorem et_tst {c : Bool} (h : EvD G false b b' te ds (.bl c)) : EtD G b b' (tTest te) ds c := fun gs M H σ S Q k => h gs M H σ S _ fun v d H' r e l rp => by
  subst r
  cases rp
  exact ⟨_, rfl, k c H' rfl e l⟩
theorem ets_tst {R1 : Bool → Prop} (h : EvS G false b b' te ds (fun d => ∃ c, d = .bl c ∧ R1 c)) : EvT G b b' (tTest te) ds R1 := fun gs M H σ S Q k => h gs M H σ S _ fun v d H' r e l rp => by
  obtain ⟨c, rfl, r1⟩ := r
  cases rp
  exact ⟨_, rfl, k c H' r1 e l⟩
theorem et_B {c : Bool} (h : EvD G false b b' te ds (.bl c)) : EtD G b b' (tB te) ds c := fun gs M H σ S Q k => h gs M H σ S _ fun v d H' r e l rp => by
  subst r
  cases rp
  exact ⟨_, rfl, k c H' rfl e l⟩
theorem et_not {c : Bool} (h : EtD G b b' tt ds c) : EtD G b b' (tNot tt) ds (!c) := fun gs M H σ S Q k => h gs M H σ S _ fun v H' r e l => k (!v) H' (by rw [r]) e l
theorem et_and {c e : Bool} (h : EtD G b b tt ds c) (h2 : c = true → EtD G b b tu ds e) : EtD G b b (tAnd tt tu) ds (c && e) := fun gs M H σ S Q k => h gs M H σ S _ fun v H' r x l => by
  subst r
  cases v with
  | true => exact (by show tu σ H' Q; exact h2 rfl gs M H' σ (S.step x l) Q fun w H2 r2 x2 l2 => k w H2 (by rw [r2]; rfl) (x.trans x2) l2)
  | false => exact (by show Q false H'; exact k false H' rfl x l)
theorem et_or {c e : Bool} (h : EtD G b b tt ds c) (h2 : c = false → EtD G b b tu ds e) : EtD G b b (tOr tt tu) ds (c || e) := fun gs M H σ S Q k => h gs M H σ S _ fun v H' r x l => by
  subst r
  cases v with
  | false => exact (by show tu σ H' Q; exact h2 rfl gs M H' σ (S.step x l) Q fun w H2 r2 x2 l2 => k w H2 (by rw [r2]; rfl) (x.trans x2) l2)
  | true => exact (by show Q true H'; exact k true H' rfl x l)
theorem ev_andV {c e : Bool} (h : EvD G false b b ta ds (.bl c)) (h2 : c = true → EvD G false b b tb ds (.bl e)) : EvD G p b b (tAndV ta tb) ds (.bl (c && e)) := fun gs M H σ S Q k => h gs M H σ S _ fun v d H' r x l rp => by
  subst r
  cases rp
  refine ⟨c, rfl, ?_⟩
  cases c with
  | true => exact (by show tb σ H' Q; exact h2 rfl gs M H' σ (S.step x l) Q fun w d2 H2 r2 x2 l2 rp2 => k w d2 H2 (by rw [r2]; rfl) (x.trans x2) l2 (by subst r2; exact rp2.flat rfl))
  | false => exact (by show Q (.bl false) H'; exact k _ _ H' rfl x l (.bl false))
theorem ev_orV {c e : Bool} (h : EvD G false b b ta ds (.bl c)) (h2 : c = false → EvD G false b b tb ds (.bl e)) : EvD G p b b (tOrV ta tb) ds (.bl (c || e)) := fun gs M H σ S Q k => h gs M H σ S _ fun v d H' r x l rp => by
  subst r
  cases rp
  refine ⟨c, rfl, ?_⟩
  cases c with
  | false => exact (by show tb σ H' Q; exact h2 rfl gs M H' σ (S.step x l) Q fun w d2 H2 r2 x2 l2 rp2 => k w d2 H2 (by rw [r2]; rfl) (x.trans x2) l2 (by subst r2; exact rp2.flat rfl))
  | true => exact (by show Q (.bl true) H'; exact k _ _ H' rfl x l (.bl true))
theorem ev_notV {c : Bool} (h : EvD G false b b' ta ds (.bl c)) : EvD G p b b' (tNotV ta) ds (.bl (!c)) := fun gs M H σ S Q k => h gs M H σ S _ fun v d H' r x l rp => by
  subst r
  cases rp
  exact ⟨c, rfl, k _ _ H' rfl x l (.bl _)⟩
/-- a if t else b -/
theorem evs_if {c : Bool} (h : EtD G b b1 tt ds c) (h1 : c = true → EvS G p b1 b' ta ds R) (h2 : c = false → EvS G p b1 b' tb ds R) : EvS G p b b' (tIf tt ta tb) ds R := fun gs M H σ S Q k => h gs M H σ S _ fun v H' r x l => by
  subst r
  cases v with
  | true => exact (by show ta σ H' Q; exact h1 rfl gs M H' σ (S.step x l) Q fun w d2 H2 r2 x2 l2 rp2 => k w d2 H2 r2 (x.trans x2) l2 rp2)
  | false => exact (by show tb σ H' Q; exact h2 rfl gs M H' σ (S.step x l) Q fun w d2 H2 r2 x2 l2 rp2 => k w d2 H2 r2 (x.trans x2) l2 rp2)
theorem ev_if {c : Bool} (h : EtD G b b1 tt ds c) (h1 : c = true → EvD G p b1 b' ta ds x) (h2 : c = false → EvD G p b1 b' tb ds y) : EvD G p b b' (tIf tt ta tb) ds (bif c then x else y) :=
  evs_if h (fun e => by subst e; exact h1 rfl) fun e => by subst e; exact h2 rfl
/-- a comparison of two -/
theorem ev_chain {r r' : R2} {tc : TE} {c e : Bool} {w : D} (h1 : EvD G p b b ta ds x) (h2 : EvD G p b b tb ds y) (h3 : Op2D G.K r x y (.bl c)) (h4 : c = true → EvD G p b b tc ds z) (h5 : c = true → Op2D G.K r' y z (.bl e)) :
    EvD G q b b (tChain r r' ta tb tc) ds (.bl (c && e)) := fun gs M H σ S Q k =>
  h1 gs M H σ S _ fun v1 d1 H1 r1 x1 l1 rp1 => h2 gs M H1 σ (S.step x1 l1) _ fun v2 d2 H2 r2 x2 l2 rp2 => by
    subst r1 r2
    have S2 := (S.step x1 l1).step x2 l2
    refine h3 (mmk p M G.M0) b H2 v1 v2 _ (S2.mm p) l2 (rp1.mono (msk_mono x2.toKp)) rp2 fun v3 d3 H3 r3 x3 l3 rp3 => ?_
    subst r3
    cases rp3
    refine ⟨c, rfl, ?_⟩
    cases c with
    | false => exact (by show Q (.bl false) H3; exact k _ _ H3 rfl ((x1.trans x2).trans x3) l3 (.bl false))
    | true =>
      show tc σ H3 fun w' H4 => r' v2 w' H4 Q
      have S3 := S2.step x3 l3
      refine h4 rfl gs M H3 σ S3 _ fun v4 d4 H4 r4 x4 l4 rp4 => ?_
      subst r4
      refine h5 rfl (mmk p M G.M0) b H4 v2 v4 Q ((S3.step x4 l4).mm p) l4 ((rp2.mono (msk_mono x3.toKp)).mono (msk_mono x4.toKp)) rp4 fun v5 d5 H5 r5 x5 l5 rp5 => ?_
      subst r5
      exact k _ _ H5 rfl (((x1.trans x2).trans x3).trans (x4.trans x5)) l5 (rp5.flat rfl)
end
end Sh

/-! Sh4: statements by data, defs by data. -/
namespace Sh
open PySem PySem.Spec PyProof.Rows L2

structure DE where
  nx : List Sd → Nat → Prop
  rt : D → List Sd → Nat → Prop
  bk : List Sd → Nat → Prop := fun _ _ => False
  ct : List Sd → Nat → Prop := fun _ _ => False
  ro : Bool := false
  ro2 : Nat := 0

/-- v is a new list that nothing else knows -/
def OwnV (K : PySem.W.Frag) (N : Addr → Prop) (H H' : Hp) (v : V) (d : D) : Prop := ∃ (a : Addr) (vs : List V) (xs : List D), v = .ref a ∧ d = .lst xs ∧ H a = none ∧ H' a = some (.lst vs) ∧ RpA K (msk (fun c => N c ∨ c = a) H') vs xs
/-- rows: lists at the addresses F, their items no objects -/
inductive RowsP (K : PySem.W.Frag) (H : Hp) : List V → List (List D) → List Addr → Prop
  | nil : RowsP K H [] [] []
  | cons {b : Addr} {ws : List V} {ys : List D} {vs : List V} {yss : List (List D)} {F : List Addr} : H b = some (.lst ws) → RpA K (fun _ => none) ws ys → (∀ y ∈ ys, flatD y = true) → RowsP K H vs yss F → RowsP K H (.ref b :: vs) (ys :: yss) (b :: F)
/-- v is a new list of new lists, all unlike -/
def OwnV2 (K : PySem.W.Frag) (H H' : Hp) (v : V) (d : D) : Prop := ∃ (a : Addr) (vs : List V) (yss : List (List D)) (F : List Addr), v = .ref a ∧ d = .lst (yss.map .lst) ∧ H a = none ∧ (∀ c ∈ F, H c = none) ∧ (a :: F).Nodup ∧ H' a = some (.lst vs) ∧ RowsP K H' vs yss F
/-- v is a new tree of objects that nothing else knows, so many levels deep -/
def OwnT (lv : Nat) (K : PySem.W.Frag) (N : Addr → Prop) (H H' : Hp) (v : V) (d : D) : Prop := ∃ F : List Addr, (∀ a ∈ F, H a = none) ∧ F.Nodup ∧ Tr K (fun c => N c ∨ c ∈ F) H' v (full lv d) F
def OwnX (p2 : Nat) (K : PySem.W.Frag) (N : Addr → Prop) (H H' : Hp) (v : V) (d : D) : Prop := match p2 with
  | 0 => OwnV K N H H' v d
  | 1 => OwnV2 K H H' v d
  | lv + 2 => OwnT lv K N H H' v d
structure Wants (G : Gx) (gs : List (V × D)) (E : DE) (Dn : Ends) : Prop where
  nx : ∀ M b H σ ds, G.st gs M b H σ ds → E.nx ds b → Dn.nx σ H
  rt : ∀ M b H σ ds v d, G.st gs M b H σ ds → E.rt d ds b → Rp G.K (msk G.M0 H) v d → (E.ro = true → OwnX E.ro2 G.K G.M0 G.H0 H v d) → Dn.rt v H
  bk : ∀ M b H σ ds, G.st gs M b H σ ds → E.bk ds b → Dn.bk σ H
  ct : ∀ M b H σ ds, G.st gs M b H σ ds → E.ct ds b → Dn.ct σ H
def Wt (G : Gx) (b : Nat) (ts : TS) (ds : List Sd) (E : DE) : Prop := ∀ gs M H σ, G.st gs M b H σ ds → ∀ Dn : Ends, Wants G gs E Dn → ts Dn σ H

section
variable {K : PySem.W.Frag} {H0 H H' : Hp} {M0 M : Addr → Prop} {b b' : Nat} {σ : List (Option V)} {ds : List Sd} {gs : List (V × D)}
theorem Stt.mmF (S : Stt K H0 M0 gs M b H σ ds) {p : Bool} {v : List (Str × V)} {d : List (Str × D)} (h : RpF K (msk M H) v d) : RpF K (msk (mmk p M M0) H) v d := by
  cases p with
  | true => exact h
  | false => exact h.mono (msk_sub S.m0)
/-- new objects of our own -/
theorem Stt.growP {H' : Hp} {b' : Nat} (S : Stt K H0 M0 gs M b H σ ds) {P : Addr → Prop} (hp : ∀ a, P a → H a = none) (e : Ext H H') (l : Lim b' H') (hl : ∀ a, P a → H' a ≠ none) :
    Stt K H0 M0 gs (fun a => M a ∨ P a) b' H' σ ds := by
  have hup : Kp (msk M H) (msk (fun a => M a ∨ P a) H') := ⟨fun a o h n => by
    obtain ⟨h1, h2⟩ := msk_of h
    have na : ¬ P a := fun z => by rw [hp a z] at h2; cases h2
    rw [msk_no fun z => z.elim h1 na]
    exact e.keep a o h2 n, fun a n h => by
    obtain ⟨h1, h2⟩ := msk_of h
    have na : ¬ P a := fun z => by rw [hp a z] at h2; unfold PurseO at h2; cases h2
    obtain ⟨m, q⟩ := e.pz a n h2
    exact ⟨m, by rw [msk_no fun z => z.elim h1 na]; exact q⟩⟩
  refine ⟨S.ext.trans e, fun a h => .inl (S.m0 a h), fun a h n => ?_, fun a h => ?_, l, S.len, fun j s d h1 h2 => (S.sl j s d h1 h2).chg hup (fun _ _ m => .inl m) fun a o _ ho n => e.keep a o ho n, S.inj, S.ownNew, fun q hq => (S.gh q hq).mono hup⟩
  · rcases h with h | h
    · exact S.new a h n
    · exact S.ext.free (hp a h)
  · rcases h with h | h
    · exact e.dom a (S.liv a h)
    · exact hl a h
theorem Stt.adoptG {H' : Hp} {b' : Nat} (S : Stt K H0 M0 gs M b H σ ds) {i : Nat} {s : Option V} {sd : Sd} {P : Addr → Prop} (hp : ∀ a, P a → H a = none) (e : Ext H H') (l : Lim b' H') (hl : ∀ a, P a → H' a ≠ none)
    (ok : SlOk K (fun a => M a ∨ P a) H' s sd) (ho : ∀ a, sd.adr s a → P a) : Stt K H0 M0 gs (fun a => M a ∨ P a) b' H' (σ.set i s) (ds.set i sd) := by
  have S1 := S.growP hp e l hl
  have nM : ∀ a, P a → ¬ M a := fun a h z => S.liv a z (hp a h)
  refine ⟨S1.ext, S1.m0, S1.new, S1.liv, l, by rw [List.length_set, List.length_set, S.len], fun j s' e' h1 h2 => ?_, fun j k a h1 h2 => ?_, fun j a h1 => ?_, S1.gh⟩
  · by_cases hj : i = j
    · subst hj
      have hi : i < σ.length := by simpa using (List.getElem?_eq_some_iff.mp h1).1
      rw [List.getElem?_set_self hi] at h1
      rw [List.getElem?_set_self (by rw [← S.len]; exact hi)] at h2
      cases h1
      cases h2
      exact ok
    · rw [List.getElem?_set_ne hj] at h1 h2
      exact S1.sl j s' e' h1 h2
  · rcases at_set h1 with ⟨e1, h1⟩ | ⟨e1, h1⟩
    · rcases at_set h2 with ⟨e2, h2⟩ | ⟨e2, h2⟩
      · rw [e1, e2]
      · exact absurd (S.atM h2) (nM a (ho a h1))
    · rcases at_set h2 with ⟨e2, h2⟩ | ⟨e2, h2⟩
      · exact absurd (S.atM h1) (nM a (ho a h2))
      · exact S.inj j k a h1 h2
  · rcases at_set h1 with ⟨e1, h1⟩ | ⟨e1, h1⟩
    · exact fun z => nM a (ho a h1) (S.m0 a z)
    · exact S.ownNew j a h1
/-- a new list is our own -/
theorem Stt.setOwn (S : Stt K H0 M0 gs M b H σ ds) {i : Nat} {p : Addr} {vs : List V} {xs : List D} (hp : H p = none) (r : RpA K (msk M H) vs xs) :
    Stt K H0 M0 gs (fun a => M a ∨ a = p) b (upd H p (.lst vs)) (σ.set i (some (.ref p))) (ds.set i (.own xs)) := by
  refine S.adoptG (P := fun a => a = p) (fun a h => by rw [h]; exact hp) (Ext.new hp) (S.lim.upd fun _ z => nomatch z) (fun a h => by rw [h, upd_same]; exact fun z => nomatch z) ⟨p, vs, rfl, .inr rfl, upd_same, r.mono (Kp.sub fun a o h => ?_)⟩ fun a h => by cases h; rfl
  obtain ⟨h1, h2⟩ := msk_of h
  have na : a ≠ p := ne_of_none h2 hp
  rw [msk_no fun z => z.elim h1 na, upd_ne na]
  exact h2
/-- what belongs to slot i is changed: it belongs to that slot, or to none -/
theorem Stt.chgG {H' : Hp} (S : Stt K H0 M0 gs M b H σ ds) {i : Nat} {s : Option V} {sn : Sd} (hs : σ[i]? = some s) (hm : msk M H' = msk M H) (hx : Ext H0 H') (hl : Lim b H') (hd : ∀ a, M a → H' a ≠ none)
    (hk : ∀ a o, M a → (∀ j, j ≠ i → At σ ds j a → H a = some o → (∀ φ, o ≠ .ext φ) → H' a = some o)) (ok : SlOk K M H' s sn) (hn : ∀ a, sn.adr s a → ¬ M0 a ∧ ∀ j, j ≠ i → ¬ At σ ds j a) :
    Stt K H0 M0 gs M b H' σ (ds.set i sn) := by
  refine ⟨hx, S.m0, S.new, hd, hl, by rw [List.length_set]; exact S.len, fun j s' e' h1 h2 => ?_, fun j k a h1 h2 => ?_, fun j a h1 => ?_, fun q hq => by rw [hm]; exact S.gh q hq⟩
  · by_cases hj : i = j
    · subst hj
      rw [hs] at h1
      cases h1
      rw [List.getElem?_set_self (by rw [← S.len]; exact (List.getElem?_eq_some_iff.mp hs).1)] at h2
      cases h2
      exact ok
    · rw [List.getElem?_set_ne hj] at h2
      refine (S.sl j s' e' h1 h2).chg (by rw [hm]; exact Kp.refl _) (fun _ _ m => m) fun a o ha ho n => hk a o (S.atM ⟨s', e', h1, h2, ha⟩) j (Ne.symm hj) ⟨s', e', h1, h2, ha⟩ ho n
  · rcases at_setD hs h1 with ⟨e1, h1⟩ | ⟨e1, h1⟩
    · rcases at_setD hs h2 with ⟨e2, h2⟩ | ⟨e2, h2⟩
      · rw [e1, e2]
      · exact absurd h2 ((hn a h1).2 k e2)
    · rcases at_setD hs h2 with ⟨e2, h2⟩ | ⟨e2, h2⟩
      · exact absurd h1 ((hn a h2).2 j e1)
      · exact S.inj j k a h1 h2
  · rcases at_setD hs h1 with ⟨e1, h1⟩ | ⟨e1, h1⟩
    · exact (hn a h1).1
    · exact S.ownNew j a h1
/-- our own object is changed -/
theorem Stt.chgO {o : HO} (S : Stt K H0 M0 gs M b H σ ds) {i : Nat} {a : Addr} {s : Option V} {sn : Sd} (ha : At σ ds i a) (hs : σ[i]? = some s) (ho : ∀ φ, o ≠ .ext φ) (hn : ∀ H', H' a = some o → (∀ c, c ≠ a → H' c = H c) → msk M H' = msk M H → SlOk K M H' s sn) (hsub : ∀ c, sn.adr s c → At σ ds i c) :
    Stt K H0 M0 gs M b (upd H a o) σ (ds.set i sn) := by
  have m := S.atM ha
  have hm : msk M (upd H a o) = msk M H := msk_upd m
  refine S.chgG hs hm (S.ext.mut (S.new a m (S.ownNew i a ha))) (S.lim.upd ho) (fun c h => ?_) (fun c u _ j hj hc hu _ => ?_) (hn _ upd_same (fun c h => upd_ne h) hm) fun c h => ⟨S.ownNew i c (hsub c h), fun j hj q => hj (S.inj j i c q (hsub c h))⟩
  · by_cases e : c = a
    · rw [e, upd_same]; exact fun z => nomatch z
    · rw [upd_ne e]; exact S.liv c h
  · rw [upd_ne fun z => hj (S.inj j i a (by rw [← z]; exact hc) ha)]
    exact hu
theorem Stt.chg (S : Stt K H0 M0 gs M b H σ ds) {i : Nat} {a : Addr} {vs : List V} {xs ys : List D} (hi : ds[i]? = some (.own xs)) (hσ : σ[i]? = some (some (.ref a))) (r : RpA K (msk M H) vs ys) :
    Stt K H0 M0 gs M b (upd H a (.lst vs)) σ (ds.set i (.own ys)) := by
  obtain ⟨a', ws, e1, m, ha, r0, n0⟩ := S.ownL hi
  rw [hσ] at e1
  cases e1
  exact S.chgO (i := i) ⟨_, _, hσ, hi, rfl⟩ hσ (fun _ z => nomatch z) (fun H' h1 _ h2 => ⟨a, vs, rfl, m, h1, by rw [h2]; exact r⟩) fun c h => ⟨_, _, hσ, hi, h⟩
theorem Stt.chgP (S : Stt K H0 M0 gs M b H σ ds) {i : Nat} {a : Addr} {vs : List V} {xs ys : List D} (hi : ds[i]? = some (.par a xs)) (r : RpA K (msk M H) vs ys) :
    Stt K H0 M0 gs M b (upd H a (.lst vs)) σ (ds.set i (.par a ys)) := by
  obtain ⟨ws, e1, m, ha, r0, n0⟩ := S.parL hi
  exact S.chgO (i := i) ⟨_, _, e1, hi, rfl⟩ e1 (fun _ z => nomatch z) (fun H' h1 _ h2 => ⟨vs, rfl, m, h1, by rw [h2]; exact r⟩) fun c h => ⟨_, _, e1, hi, h⟩
/-- what belongs to a slot is data from now on -/
theorem Stt.freezeG (S : Stt K H0 M0 gs M b H σ ds) {i : Nat} {s : V} {d : D} (hs : σ[i]? = some (some s)) (r : ∀ M', (∀ c, M' c → M c ∧ ¬ At σ ds i c) → Rp K (msk M' H) s d) : ∃ M', (∀ c, M' c → M c) ∧ Stt K H0 M0 gs M' b H σ (ds.set i (.dat d)) := by
  have hk : Kp (msk M H) (msk (fun c => M c ∧ ¬ At σ ds i c) H) := msk_sub fun c h => h.1
  refine ⟨fun c => M c ∧ ¬ At σ ds i c, fun c h => h.1, S.ext, fun c h => ⟨S.m0 c h, fun z => S.ownNew i c z h⟩, fun c h n => S.new c h.1 n, fun c h => S.liv c h.1, S.lim, by rw [List.length_set]; exact S.len, fun j s' e h1 h2 => ?_, fun j k c h1 h2 => ?_, fun j c h1 => ?_, fun q hq => (S.gh q hq).mono hk⟩
  · by_cases hj : i = j
    · subst hj
      rw [hs] at h1
      cases h1
      rw [List.getElem?_set_self (by rw [← S.len]; exact (List.getElem?_eq_some_iff.mp hs).1)] at h2
      cases h2
      exact ⟨_, rfl, r _ fun _ h => h⟩
    · rw [List.getElem?_set_ne hj] at h2
      exact (S.sl j s' e h1 h2).chg hk (fun c hc m => ⟨m, fun z => hj (S.inj i j c z ⟨s', e, h1, h2, hc⟩)⟩) fun c o _ ho _ => ho
  · rcases at_setD hs h1 with ⟨_, h1⟩ | ⟨_, h1⟩
    · cases h1
    · rcases at_setD hs h2 with ⟨_, h2⟩ | ⟨_, h2⟩
      · cases h2
      · exact S.inj j k c h1 h2
  · rcases at_setD hs h1 with ⟨_, h1⟩ | ⟨_, h1⟩
    · cases h1
    · exact S.ownNew j c h1
/-- our own list is data from now on -/
theorem Stt.freeze (S : Stt K H0 M0 gs M b H σ ds) {i : Nat} {xs : List D} (hi : ds[i]? = some (.own xs)) : ∃ M', Stt K H0 M0 gs M' b H σ (ds.set i (.dat (.lst xs))) := by
  obtain ⟨a, vs, hσ, m, ha, r, n0⟩ := S.ownL hi
  obtain ⟨M', _, q⟩ := S.freezeG (i := i) (d := .lst xs) hσ fun M' h => .lst (by rw [msk_no fun z => (h a z).2 ⟨_, _, hσ, hi, rfl⟩]; exact ha) (r.mono (msk_sub fun c hc => (h c hc).1))
  exact ⟨M', q⟩
/-- ghosts -/
theorem Stt.ghost (S : Stt K H0 M0 gs M b H σ ds) {v : V} {d : D} (r : Rp K (msk M H) v d) : Stt K H0 M0 ((v, d) :: gs) M b H σ ds :=
  ⟨S.ext, S.m0, S.new, S.liv, S.lim, S.len, S.sl, S.inj, S.ownNew, fun q hq => by
    rcases List.mem_cons.mp hq with e | hq
    · rw [e]; exact r
    · exact S.gh q hq⟩
theorem Stt.unghost {g : V × D} (S : Stt K H0 M0 (g :: gs) M b H σ ds) : Stt K H0 M0 gs M b H σ ds :=
  ⟨S.ext, S.m0, S.new, S.liv, S.lim, S.len, S.sl, S.inj, S.ownNew, fun q hq => S.gh q (List.mem_cons_of_mem _ hq)⟩
end

section
variable {G : Gx} {p : Bool} {b b' b1 b2 : Nat} {te ta tb : TE} {tt : TT} {ts t u : TS} {tA : TA} {ds : List Sd} {R : D → Prop} {d : D} {E : DE} {i j : Nat}
theorem Wants.imp {gs : List (V × D)} {E E' : DE} {Dn : Ends} (w : Wants G gs E' Dn) (h1 : ∀ ds b, E.nx ds b → E'.nx ds b) (h2 : ∀ d ds b, E.rt d ds b → E'.rt d ds b) (h3 : ∀ ds b, E.bk ds b → E'.bk ds b) (h4 : ∀ ds b, E.ct ds b → E'.ct ds b) (h5 : E'.ro = true → E.ro = true) (h6 : E'.ro2 = E.ro2 := by rfl) : Wants G gs E Dn :=
  ⟨fun M b H σ ds S e => w.nx M b H σ ds S (h1 _ _ e), fun M b H σ ds v d S e r o => w.rt M b H σ ds v d S (h2 _ _ _ e) r fun z => (by rw [h6]; exact o (h5 z)), fun M b H σ ds S e => w.bk M b H σ ds S (h3 _ _ e), fun M b H σ ds S e => w.ct M b H σ ds S (h4 _ _ e)⟩
theorem Wt.imp {E' : DE} (h : Wt G b ts ds E) (h1 : ∀ ds b, E.nx ds b → E'.nx ds b) (h2 : ∀ d ds b, E.rt d ds b → E'.rt d ds b) (h3 : ∀ ds b, E.bk ds b → E'.bk ds b) (h4 : ∀ ds b, E.ct ds b → E'.ct ds b) (h5 : E'.ro = true → E.ro = true) (h6 : E'.ro2 = E.ro2 := by rfl) : Wt G b ts ds E' :=
  fun gs M H σ S Dn w => h gs M H σ S Dn (w.imp h1 h2 h3 h4 h5 h6)
theorem w_next (h : E.nx ds b) : Wt G b tNext ds E := fun gs M H σ S Dn w => w.nx M b H σ ds S h
theorem w_seq (h : Wt G b t ds { E with nx := fun ds' b' => Wt G b' u ds' E }) : Wt G b (tSeq t u) ds E := fun gs M H σ S Dn w =>
  h gs M H σ S { Dn with nx := u Dn } ⟨fun M' b' H' σ' ds' S' e => e gs M' H' σ' S' Dn w, w.rt, w.bk, w.ct⟩
theorem w_brk (h : E.bk ds b) : Wt G b tBreak ds E := fun gs M H σ S Dn w => w.bk M b H σ ds S h
theorem w_cnt (h : E.ct ds b) : Wt G b tCont ds E := fun gs M H σ S Dn w => w.ct M b H σ ds S h
/-- name = e -/
theorem ws_asg (h : EvS G true b b' te ds R) (k : ∀ d, R d → E.nx (ds.set i (.dat d)) b') : Wt G b (tAsg te (gName i)) ds E := fun gs M H σ S Dn w =>
  h gs M H σ S _ fun v d H' r e l rp => w.nx M b' H' _ _ ((S.step e l).set rp) (k d r)
theorem w_asg (h : EvD G true b b' te ds d) (k : E.nx (ds.set i (.dat d)) b') : Wt G b (tAsg te (gName i)) ds E := ws_asg h fun _ e => by rw [e]; exact k
/-- name = [..], our own from now on -/
theorem w_own {es : List D} (h : EaD G true b b' tA ds es) (k : E.nx (ds.set i (.own es)) b') (hl : es.length ≤ 100000 := by decide) : Wt G b (tAsg (tLst tA) (gName i)) ds E := fun gs M H σ S Dn w =>
  h gs M H σ S _ fun vs fs H' r e l rp => ⟨by rw [rp.length, r]; exact Nat.le_trans hl (by decide), fun a ha => w.nx _ b' _ _ _ ((S.step e l).setOwn ha (by rw [r] at rp; exact rp)) k⟩
theorem w_freeze {xs : List D} (h : ds[i]? = some (.own xs)) (k : Wt G b ts (ds.set i (.dat (.lst xs))) E) : Wt G b ts ds E := fun gs M H σ S Dn w => by
  obtain ⟨M', S'⟩ := S.freeze h
  exact k gs M' H σ S' Dn w
/-- a, b, .. = e -/
def gNames : List Nat → TGs
  | [] => gNil
  | i :: is => gCons (gName i) (gNames is)
def setAll (ds : List Sd) : List Nat → List D → List Sd
  | i :: is, d :: es => setAll (ds.set i (.dat d)) is es
  | _, _ => ds
theorem names_run {K : PySem.W.Frag} {H0 H : Hp} {M0 M : Addr → Prop} {gs : List (V × D)} {Q : L2.St → Hp → Prop} : ∀ (is : List Nat) (vs : List V) (es : List D) (σ : List (Option V)) (ds : List Sd), is.length = vs.length → Stt K H0 M0 gs M b H σ ds → RpA K (msk M H) vs es →
    (∀ σ', Stt K H0 M0 gs M b H σ' (setAll ds is es) → Q σ' H) → gNames is vs σ H Q
  | [], [], [], σ, ds, _, S, .nil, k => ⟨rfl, k σ S⟩
  | i :: is, v :: vs, d :: es, σ, ds, hl, S, .cons r rr, k => ⟨v, vs, rfl, names_run is vs es _ _ (Nat.succ.inj hl) (S.set r) rr k⟩
theorem ws_unpack {is : List Nat} {n : Nat} (h : EvS G true b b' te ds R) (k : ∀ d, R d → ∃ es, d = .tup es ∧ es.length = n ∧ is.length = n ∧ E.nx (setAll ds is es) b') : Wt G b (tAsg te (gTup G.K n (gNames is))) ds E := fun gs M H σ S Dn w =>
  h gs M H σ S _ fun v d H' r e l rp => by
    obtain ⟨es, rfl, h1, h2, h3⟩ := k d r
    cases rp with
    | tup hs ha =>
      exact ⟨_, _, rfl, sqt_unm hs, by rw [ha.length, h1], names_run is _ es σ ds (by rw [h2, ← h1, ha.length]) (S.step e l) ha fun σ' S' => w.nx M b' H' σ' _ S' h3⟩
theorem w_unpack {is : List Nat} {n : Nat} {es : List D} (h : EvD G true b b' te ds (.tup es)) (k : E.nx (setAll ds is es) b') (h1 : es.length = n := by rfl) (h2 : is.length = n := by rfl) : Wt G b (tAsg te (gTup G.K n (gNames is))) ds E :=
  ws_unpack h fun d e => ⟨es, e, h1, h2, k⟩
theorem w_if {c : Bool} (h : EtD G b b1 tt ds c) (h1 : c = true → Wt G b1 t ds E) (h2 : c = false → Wt G b1 u ds E) : Wt G b (tIfS tt t u) ds E := fun gs M H σ S Dn w => h gs M H σ S _ fun v H' r x l => by
  subst r
  cases v with
  | true => exact (by show t Dn σ H'; exact h1 rfl gs M H' σ (S.step x l) Dn w)
  | false => exact (by show u Dn σ H'; exact h2 rfl gs M H' σ (S.step x l) Dn w)
theorem ws_if {R : Bool → Prop} (h : EvT G b b1 tt ds R) (h1 : R true → Wt G b1 t ds E) (h2 : R false → Wt G b1 u ds E) : Wt G b (tIfS tt t u) ds E := fun gs M H σ S Dn w => h gs M H σ S _ fun v H' r x l => by
  cases v with
  | true => exact (by show t Dn σ H'; exact h1 r gs M H' σ (S.step x l) Dn w)
  | false => exact (by show u Dn σ H'; exact h2 r gs M H' σ (S.step x l) Dn w)
theorem ws_ret (h : EvS G false b b' te ds R) (k : ∀ d, R d → E.rt d ds b') (ho : E.ro = false := by rfl) : Wt G b (tRet te) ds E := fun gs M H σ S Dn w => h gs M H σ S _ fun v d H' r e l rp => w.rt M b' H' σ ds v d (S.step e l) (k d r) rp fun z => by rw [ho] at z; cases z
theorem w_ret (h : EvD G false b b' te ds d) (k : E.rt d ds b') (ho : E.ro = false := by rfl) : Wt G b (tRet te) ds E := ws_ret h (fun _ e => by rw [e]; exact k) ho
theorem w_retN (k : E.rt .non ds b) (ho : E.ro = false := by rfl) : Wt G b tRetN ds E := fun gs M H σ S Dn w => w.rt M b H σ ds .non .non S k .non fun z => by rw [ho] at z; cases z
theorem ws_drop (h : EvS G false b b' te ds R) (k : ∀ d, R d → E.nx ds b') : Wt G b (tDrop te) ds E := fun gs M H σ S Dn w => h gs M H σ S _ fun v d H' r e l rp => w.nx M b' H' σ ds (S.step e l) (k d r)
theorem w_drop (h : EvD G false b b' te ds d) (k : E.nx ds b') : Wt G b (tDrop te) ds E := ws_drop h fun _ _ => k
/-- found.append(e), found our own -/
theorem ws_app {xs : List D} (hi : ds[i]? = some (.own xs)) (h : EvS G true b b' te ds R) (hl : xs.length < 100000) (k : ∀ d, R d → E.nx (ds.set i (.own (xs ++ [d]))) b') :
    Wt G b (tDrop (tBM G.K "list" rAppend (tVar i) (tCons te tNil))) ds E := fun gs M H σ S Dn w => by
  obtain ⟨a, vs, hσ, m, ha, r, n0⟩ := S.ownL hi
  refine ⟨.ref a, hσ, .inl ⟨rfl, vs, SqL.of ha⟩, ?_⟩
  refine h gs M H σ S _ fun v d H' rd e l rp => ?_
  have S' := S.step e l
  have ha' : H' a = some (.lst vs) := e.keep _ _ ha fun _ z => nomatch z
  refine ⟨a, vs, v, rfl, rfl, ha', by rw [r.length]; exact Nat.lt_of_lt_of_le hl (by decide), ?_⟩
  exact w.nx M b' _ σ _ (S'.chg hi hσ ((r.mono (msk_mono e.toKp)).append (.cons rp .nil))) (k d rd)
theorem w_app {xs : List D} (hi : ds[i]? = some (.own xs)) (h : EvD G true b b' te ds d) (hl : xs.length < 100000) (k : E.nx (ds.set i (.own (xs ++ [d]))) b') :
    Wt G b (tDrop (tBM G.K "list" rAppend (tVar i) (tCons te tNil))) ds E := ws_app hi h hl fun _ e => by rw [e]; exact k
end

/-! ### defs by data -/
structure Fd where
  n : Nat
  dom : List D → Prop
  cost : List D → Nat := fun _ => 0
  res : List D → D → Prop
  exn : List D → Addr → List (Str × D) → Prop := fun _ _ _ => False
  own : Bool := false
  own2 : Nat := 0
def SpD (K : PySem.W.Frag) (F : Fd) : Sp := fun vs H Q E => ∃ (ds : List D) (N : Addr → Prop) (b : Nat), (∀ a, N a → H a ≠ none) ∧ Lim (F.cost ds + b) H ∧ RpA K (msk N H) vs ds ∧ ds.length = F.n ∧ F.dom ds ∧
  (∀ v d H', F.res ds d → Ext H H' → Lim b H' → Rp K (msk N H') v d → (F.own = true → OwnX F.own2 K N H H' v d) → Q v H') ∧
  (∀ C dd fsV fs H', F.exn ds C fs → Ext H H' → Lim b H' → H dd = none → H' dd = some (.xd fsV) → RpF K (msk N H') fsV fs → E (.ref C) (some dd) H')
theorem SpD.len {K : PySem.W.Frag} {F : Fd} {ps : List Str} (h : ps.length = F.n) : ∀ vs H Q E, SpD K F vs H Q E → vs.length = ps.length := fun vs H Q E ⟨ds, N, b, h1, h2, h3, h4, h5⟩ => by
  rw [h3.length, h4, h]
/-- the entry of a def's body -/
abbrev gOf (K : PySem.W.Frag) (H : Hp) (N : Addr → Prop) (E : XK) (F : Fd) (ds : List D) (b : Nat) : Gx := ⟨K, H, N, WD E, fun C fs _ b' => b ≤ b' ∧ F.exn ds C fs, false⟩
abbrev eOf (F : Fd) (ds : List D) (b : Nat) : DE := { nx := fun _ b' => b ≤ b' ∧ F.res ds .non ∧ F.own = false, rt := fun d _ b' => b ≤ b' ∧ F.res ds d, ro := F.own, ro2 := F.own2 }
def slots (N : Nat) (ds : List D) : List Sd := ds.map Sd.dat ++ List.replicate (N - ds.length) .un
theorem start_stt {K : PySem.W.Frag} {H : Hp} {N : Addr → Prop} {b : Nat} {names : List Str} {vs : List V} {ds : List D} (hN : ∀ a, N a → H a ≠ none) (hl : Lim b H) (r : RpA K (msk N H) vs ds) : Stt K H N [] N b H (L2.start names vs) (slots names.length ds) := by
  have len : (L2.start names vs).length = (slots names.length ds).length := by
    unfold L2.start slots
    rw [List.length_append, List.length_append, List.length_map, List.length_map, List.length_replicate, List.length_replicate, r.length]
  have noOwn : ∀ (j : Nat) (e : Sd), (slots names.length ds)[j]? = some e → isOwn e = true → False := fun j e h1 h2 => by
    have hm := List.mem_of_getElem? h1
    unfold slots at hm
    rcases List.mem_append.mp hm with q | q
    · obtain ⟨d, _, e1⟩ := List.mem_map.mp q
      rw [← e1] at h2
      cases h2
    · rw [(List.mem_replicate.mp q).2] at h2
      cases h2
  refine ⟨Ext.refl H, fun _ h => h, fun a h n => absurd h n, hN, hl, len, fun i s d h1 h2 => ?_, fun i j a ⟨_, d, _, h2, h3⟩ _ => (noOwn i d h2 (adr_own h3)).elim, fun i a ⟨_, d, _, h2, h3⟩ => (noOwn i d h2 (adr_own h3)).elim, fun q hq => by cases hq⟩
  by_cases hi : i < ds.length
  · unfold slots at h2
    rw [List.getElem?_append_left (by rw [List.length_map]; exact hi), List.getElem?_map, List.getElem?_eq_getElem hi] at h2
    cases h2
    obtain ⟨v, e, rv⟩ := r.getD (List.getElem?_eq_getElem hi)
    unfold L2.start at h1
    rw [List.getElem?_append_left (by rw [List.length_map, r.length]; exact hi), List.getElem?_map, e] at h1
    cases h1
    exact ⟨v, rfl, rv⟩
  · unfold slots at h2
    rw [List.getElem?_append_right (by rw [List.length_map]; omega)] at h2
    have e := (List.mem_replicate.mp (List.mem_of_getElem? h2)).2
    rw [e]
    trivial
theorem gOf_acc {K : PySem.W.Frag} {H : Hp} {N : Addr → Prop} {E : XK} {F : Fd} {ds : List D} {b : Nat}
    (hx : ∀ C dd fsV fs H', F.exn ds C fs → Ext H H' → Lim b H' → H dd = none → H' dd = some (.xd fsV) → RpF K (msk N H') fsV fs → E (.ref C) (some dd) H') : (gOf K H N E F ds b).Acc :=
  fun gs M b' H' σ sd C dd fsV fs S h1 h2 _ h3 ⟨h4, h5⟩ => hx C dd fsV fs H' h5 S.ext (S.lim.mono h4) h2 h1 h3
section
variable {P : Program} {w : World} {K : PySem.W.Frag} {mg : Str → Option Value} {base : Heap}
/-- THE RULE for a def -/
theorem fn_data {x qual : Str} {st : Stmt} {f : Addr} {fd : FuncData} {N ps : List Str} {k : Nat} {F : Fd} {dvs : List V} {kws : List (Str × V)} (U : FunD K x qual (defArgs st) (defBody st) (defScope st) dvs kws f fd ∨ Fun K x qual st f fd) (S : FnScope N ps (defScope st)) (hn : ps.length = F.n)
    (hbody : ∀ (cdv : Value) (A : Around) (outer : List Env) (s : Shared) (H : Hp) (E : XK), Room k (A.deeper (envOfC qual (defScope st) s.heap.objs.size f cdv)) →
      Takes (cxOf (L2.CX P w) P w K mg base N qual (defScope st) f cdv A outer s H E) (WD E) →
      ∃ t, PSs (cxOf (L2.CX P w) P w K mg base N qual (defScope st) f cdv A outer s H E) (defBody st) t ∧
        ∀ (ds : List D) (N' : Addr → Prop) (b : Nat), ds.length = F.n → F.dom ds → (gOf K H N' E F ds b).Acc → Wt (gOf K H N' E F ds b) (F.cost ds + b) t (slots N.length ds) (eOf F ds b)) :
    FnOk P w K mg base (L2.CX P w) (k + 1) f fd ps (SpD K F) := by
  have main : ∀ (cdv : Value) (A : Around) (outer : List Env) (s : Shared) (H : Hp) (vs : List V) (Q : VK) (E : XK), Room k (A.deeper (envOfC qual (defScope st) s.heap.objs.size f cdv)) → SpD K F vs H Q E →
      ∃ t, PSs (cxOf (L2.CX P w) P w K mg base N qual (defScope st) f cdv A outer s H E) (defBody st) t ∧ t { nx := fun _ H' => Q .non H', rt := Q } (L2.start N vs) H := by
    intro cdv A outer s H vs Q E hr hsp
    obtain ⟨t, h1, h2⟩ := hbody cdv A outer s H E hr (takes_of (E := E) rfl rfl rfl rfl)
    obtain ⟨ds, N', b, a1, a2, a3, a4, a5, a6, a7⟩ := hsp
    refine ⟨t, h1, h2 ds N' b a4 a5 (gOf_acc a7) [] N' H _ (start_stt a1 a2 a3) _ ⟨fun M b' H' σ' ds' S' e => ?_, fun M b' H' σ' ds' v d S' e rp ro => ?_, fun _ _ _ _ _ _ e => e.elim, fun _ _ _ _ _ _ e => e.elim⟩⟩
    · exact a6 .non .non H' e.2.1 S'.ext (S'.lim.mono e.1) .non fun z => by rw [e.2.2] at z; cases z
    · exact a6 v d H' e.2 S'.ext (S'.lim.mono e.1) rp ro
  rcases U with U | U
  · exact U.ok S (SpD.len hn) main
  · obtain ⟨oc, od, kV, doc, pm, an, cdv, ct, osl, rfl, lk, hcd⟩ := U.ex
    exact fn_of lk hcd S (SpD.len hn) fun A outer s H vs Q E hr hsp => main cdv A outer s H vs Q E hr hsp
end
/-! ### calls of them -/
section
variable {G : Gx} {p : Bool} {b b' b1 b2 : Nat} {t tk : TA} {ds : List Sd} {F : Fd} {n m : Nat} {gV : List V → List V → List V} {gD : List D → List D → List D} {E : L2.St → XK} {es fs : List D}
/-- f(..), an own def; nothing raised -/
theorem evs_cl {Ra : List D → Prop} (ha : EvA G p b b1 t ds Ra) (hk : EaD G p b1 b2 tk ds fs) (hg : ∀ (H : Hp) vs zs es fs, RpA G.K H vs es → RpA G.K H zs fs → RpA G.K H (gV vs zs) (gD es fs)) (hm : fs.length = m)
    (h : ∀ es, Ra es → es.length = n ∧ (gD es fs).length = F.n ∧ F.dom (gD es fs) ∧ F.cost (gD es fs) + b' ≤ b2 ∧ ∀ C x, F.exn (gD es fs) C x → E = WE G.W ∧ G.Acc ∧ (G.pm = true → p = true) ∧ G.X C x ds b') :
    EvS G p b b' (tCl n m (SpD G.K F) gV E t tk) ds (fun d => ∃ es, Ra es ∧ F.res (gD es fs) d) := fun gs M H σ S Q k =>
  ha gs M H σ S _ fun vs es' H1 r1 e1 l1 rp1 => hk gs M H1 σ (S.step e1 l1) _ fun zs fs' H2 r2 e2 l2 rp2 => by
    subst r2
    have S2 := (S.step e1 l1).step e2 l2
    obtain ⟨a1, a2, a3, a4, a5⟩ := h es' r1
    refine ⟨by rw [rp1.length, a1], by rw [rp2.length, hm], gD es' fs', mmk p M G.M0, b', S2.mm p, l2.mono a4, hg _ _ _ _ _ (rp1.mono (msk_mono e2.toKp)) rp2, a2, a3, fun v d H3 rd e3 l3 rp3 _ => k v d H3 ⟨es', r1, rd⟩ ((e1.trans e2).trans e3) l3 rp3, fun C dd fsV x H3 rx e3 l3 hd hx rp3 => ?_⟩
    obtain ⟨h1, h2, h3, h4⟩ := a5 C x rx
    subst h1
    have S3 := S2.step e3 l3
    refine h2 gs M b' H3 σ ds C dd fsV x S3 hx (S2.ext.free hd) (fun z => S2.liv dd z hd) ?_ h4
    cases p with
    | true => exact S3.mmF rp3
    | false =>
      cases e : G.pm with
      | true => exact absurd (h3 e) Bool.false_ne_true
      | false => exact rp3
end
end Sh

/-! Sh5: walks by data: for, comprehensions, while. -/
namespace Sh
open PySem PySem.Spec PyProof.Rows L2

/-- what is held while something is walked -/
def Gh (K : PySem.W.Frag) (gs : List (V × D)) (M : Addr → Prop) (H : Hp) : Prop := (∀ q ∈ gs, Rp K (msk M H) q.1 q.2) ∧ ∀ a, M a → H a ≠ none
/-- J walks n items, the i-th one it i, as long as gs is held -/
structure JOk (K : PySem.W.Frag) (J : It) (gs : List (V × D)) (n : Nat) (it : Nat → D) : Prop where
  go : ∀ i M H, Gh K gs M H → i < n → J.go i H
  yld : ∀ i M H, Gh K gs M H → i < n → ∀ x H2, J.yld i H x H2 → Ext H H2 ∧ (∀ b, Lim b H → Lim b H2) ∧ Rp K (msk M H2) x (it i)
  stop : ∀ M H, Gh K gs M H → J.stop n H
def EvI (G : Gx) (b b' : Nat) (wi : TI) (ds : List Sd) (n : Nat) (it : Nat → D) : Prop := ∀ gs M H σ, G.st gs M b H σ ds → ∀ R : It → Hp → Prop,
  (∀ J gs' H', Ext H H' → Lim b' H' → (∀ q ∈ gs', Rp G.K (msk M H') q.1 q.2) → JOk G.K J gs' n it → R J H') → wi σ H R
section
variable {G : Gx} {p : Bool} {b b' b1 b2 : Nat} {te : TE} {ta : TA} {ds : List Sd}
theorem itr_ok {K : PySem.W.Frag} {lo : Int} {n : Nat} : JOk K (Itr lo n) [] n (fun i => .int (lo + i)) :=
  ⟨fun i M H _ h => h, fun i M H _ h x H2 ⟨e1, e2⟩ => by subst e1 e2; exact ⟨Ext.refl _, fun _ l => l, .int _⟩, fun M H _ => Nat.le_refl n⟩
theorem ei_r1 {n : Int} (h : EaD G p b b' ta ds [.int n]) (hn : -(2 ^ 62) ≤ n ∧ n < 2 ^ 62) : EvI G b b' (iRng1 ta) ds n.toNat (fun i => .int (i : Int)) := fun gs M H σ S R k =>
  h gs M H σ S _ fun vs es H' r e l rp => by
    subst r
    cases rp with
    | cons r1 r2 => cases r2; cases r1; exact ⟨n, rfl, hn.1, hn.2, k _ [] H' e l (fun q z => by cases z) (by
        have q := itr_ok (K := G.K) (lo := 0) (n := n.toNat)
        simp only [Int.zero_add] at q
        exact q)⟩
theorem ei_r2 {m n : Int} (h : EaD G p b b' ta ds [.int m, .int n]) (hm : -(2 ^ 62) ≤ m ∧ m < 2 ^ 62 ∧ -(2 ^ 62) ≤ n ∧ n < 2 ^ 62) : EvI G b b' (iRng2 ta) ds (n - m).toNat (fun i => .int (m + i)) := fun gs M H σ S R k =>
  h gs M H σ S _ fun vs es H' r e l rp => by
    subst r
    cases rp with
    | cons r1 r2 => cases r2 with | cons r2 r3 => cases r3; cases r2; cases r1; exact ⟨m, n, rfl, hm, k _ [] H' e l (fun q z => by cases z) itr_ok⟩
theorem ei_list {xs : List D} (h : EvD G true b b' te ds (.lst xs)) : EvI G b b' (iList G.K te) ds xs.length (fun i => xs.getD i .non) := fun gs M H σ S R k =>
  h gs M H σ S _ fun v d H' r e l rp => by
    subst r
    cases id rp with
    | @lst a vs _ ha r =>
      refine ⟨a, rfl, ⟨vs, SqL.of (msk_of ha).2⟩, k _ [(.ref a, .lst xs)] H' e l (fun q z => by rw [List.mem_singleton.mp z]; exact rp) ⟨fun i M1 H1 g hi => ?_, fun i M1 H1 g hi x H2 y => ?_, fun M1 H1 g => ?_⟩⟩
      all_goals
        have g1 := g.1 _ (List.mem_singleton.mpr rfl)
        cases g1 with
        | lst hb rb => _
      · have hi' := hi
        rw [← rb.length] at hi'
        exact ⟨_, _, SqL.of (msk_of hb).2, List.getElem?_eq_getElem hi'⟩
      · obtain ⟨e1, e2⟩ := y
        subst e1
        obtain ⟨d, hd, r2⟩ := rb.get (e2 _ (SqL.of (msk_of hb).2))
        refine ⟨Ext.refl _, fun _ l => l, ?_⟩
        rw [List.getD_eq_getElem?_getD, hd]
        exact r2
      · exact ⟨_, SqL.of (msk_of hb).2, Nat.le_of_eq rb.length⟩
theorem ei_tup {xs : List D} (h : EvD G true b b' te ds (.tup xs)) : EvI G b b' (iTup G.K te) ds xs.length (fun i => xs.getD i .non) := fun gs M H σ S R k =>
  h gs M H σ S _ fun v d H' r e l rp => by
    subst r
    cases id rp with
    | @tup a vs _ ha r =>
      refine ⟨a, rfl, ⟨vs, sqt_unm ha⟩, k _ [(.ref a, .tup xs)] H' e l (fun q z => by rw [List.mem_singleton.mp z]; exact rp) ⟨fun i M1 H1 g hi => ?_, fun i M1 H1 g hi x H2 y => ?_, fun M1 H1 g => ?_⟩⟩
      all_goals
        have g1 := g.1 _ (List.mem_singleton.mpr rfl)
        cases g1 with
        | tup hb rb => _
      · have hi' := hi
        rw [← rb.length] at hi'
        exact ⟨_, _, sqt_unm hb, List.getElem?_eq_getElem hi'⟩
      · obtain ⟨e1, e2⟩ := y
        subst e1
        obtain ⟨d, hd, r2⟩ := rb.get (e2 _ (sqt_unm hb))
        refine ⟨Ext.refl _, fun _ l => l, ?_⟩
        rw [List.getD_eq_getElem?_getD, hd]
        exact r2
      · exact ⟨_, sqt_unm hb, Nat.le_of_eq rb.length⟩
theorem ei_enum {xs : List D} (h : EaD G true b b' ta ds [.lst xs]) : EvI G b b' (iEnum G.K ta) ds xs.length (fun i => .tup [.int (i : Int), xs.getD i .non]) := fun gs M H σ S R k =>
  h gs M H σ S _ fun vs es H' r e l rp => by
    subst r
    cases rp with
    | cons rp r2 =>
      cases r2
      cases id rp with
      | @lst a vs _ ha r =>
        refine ⟨a, vs, rfl, SqL.of (msk_of ha).2, k _ [(.ref a, .lst xs)] H' e l (fun q z => by rw [List.mem_singleton.mp z]; exact rp) ⟨fun i M1 H1 g hi => ?_, fun i M1 H1 g hi x H2 y => ?_, fun M1 H1 g => ?_⟩⟩
        all_goals
          have g1 := g.1 _ (List.mem_singleton.mpr rfl)
          cases g1 with
          | lst hb rb => _
        · have hi' := hi
          rw [← rb.length] at hi'
          exact ⟨_, _, SqL.of (msk_of hb).2, List.getElem?_eq_getElem hi'⟩
        · obtain ⟨T, z, e1, e2, e3, e4⟩ := y
          subst e1 e3
          obtain ⟨d, hd, r2⟩ := rb.get (e4 _ (SqL.of (msk_of hb).2))
          refine ⟨Ext.new e2, fun _ l => l.upd (fun _ z => nomatch z), ?_⟩
          rw [List.getD_eq_getElem?_getD, hd]
          exact new_tup g.2 e2 (.cons (.int _) (.cons r2 .nil))
        · exact ⟨_, SqL.of (msk_of hb).2, Nat.le_of_eq rb.length⟩
theorem ei_zip {xs ys : List D} (h : EaD G true b b' ta ds [.lst xs, .lst ys]) : EvI G b b' (RZ.iZipA G.K ta) ds (min xs.length ys.length) (fun i => .tup [xs.getD i .non, ys.getD i .non]) := fun gs M H σ S R k =>
  h gs M H σ S _ fun vs es H' r e l rp => by
    subst r
    cases rp with
    | cons rp r2 =>
      cases r2 with
      | cons rq r3 =>
        cases r3
        cases id rp with
        | @lst a vs _ ha r =>
          cases id rq with
          | @lst c ws _ hc s =>
            refine ⟨a, c, vs, ws, rfl, .inl ⟨SqL.of (msk_of ha).2, SqL.of (msk_of hc).2, k _ [(.ref a, .lst xs), (.ref c, .lst ys)] H' e l (fun q z => ?_) ⟨fun i M1 H1 g hi => ?_, fun i M1 H1 g hi x H2 y => ?_, fun M1 H1 g => ?_⟩⟩⟩
            · rcases List.mem_cons.mp z with z | z
              · rw [z]; exact rp
              · rw [List.mem_singleton.mp z]; exact rq
            all_goals
              have g1 := g.1 (.ref a, .lst xs) List.mem_cons_self
              have g2 := g.1 (.ref c, .lst ys) (List.mem_cons_of_mem _ (List.mem_singleton.mpr rfl))
              cases g1 with
              | lst hb rb => _
              cases g2 with
              | lst hd rd => _
            · have h1 : i < xs.length := Nat.lt_of_lt_of_le hi (Nat.min_le_left _ _)
              have h2 : i < ys.length := Nat.lt_of_lt_of_le hi (Nat.min_le_right _ _)
              rw [← rb.length] at h1
              rw [← rd.length] at h2
              exact ⟨_, _, _, _, SqL.of (msk_of hb).2, SqL.of (msk_of hd).2, List.getElem?_eq_getElem h1, List.getElem?_eq_getElem h2⟩
            · obtain ⟨T, z, u, e1, e2, e3, e4, e5⟩ := y
              subst e1 e3
              obtain ⟨d1, hd1, q1⟩ := rb.get (e4 _ (SqL.of (msk_of hb).2))
              obtain ⟨d2, hd2, q2⟩ := rd.get (e5 _ (SqL.of (msk_of hd).2))
              refine ⟨Ext.new e2, fun _ l => l.upd (fun _ z => nomatch z), ?_⟩
              rw [List.getD_eq_getElem?_getD, hd1, List.getD_eq_getElem?_getD, hd2]
              exact new_tup g.2 e2 (.cons q1 (.cons q2 .nil))
            · have h1 := rb.length
              have h2 := rd.length
              exact ⟨_, _, SqL.of (msk_of hb).2, SqL.of (msk_of hd).2, by omega⟩
theorem ei_zipT {xs ys : List D} (h : EaD G true b b' ta ds [.tup xs, .tup ys]) : EvI G b b' (RZ.iZipA G.K ta) ds (min xs.length ys.length) (fun i => .tup [xs.getD i .non, ys.getD i .non]) := fun gs M H σ S R k =>
  h gs M H σ S _ fun vs es H' r e l rp => by
    subst r
    cases rp with
    | cons rp r2 =>
      cases r2 with
      | cons rq r3 =>
        cases r3
        cases id rp with
        | @tup a vs _ ha r =>
          cases id rq with
          | @tup c ws _ hc s =>
            refine ⟨a, c, vs, ws, rfl, .inr ⟨sqt_unm ha, sqt_unm hc, k _ [(.ref a, .tup xs), (.ref c, .tup ys)] H' e l (fun q z => ?_) ⟨fun i M1 H1 g hi => ?_, fun i M1 H1 g hi x H2 y => ?_, fun M1 H1 g => ?_⟩⟩⟩
            · rcases List.mem_cons.mp z with z | z
              · rw [z]; exact rp
              · rw [List.mem_singleton.mp z]; exact rq
            all_goals
              have g1 := g.1 (.ref a, .tup xs) List.mem_cons_self
              have g2 := g.1 (.ref c, .tup ys) (List.mem_cons_of_mem _ (List.mem_singleton.mpr rfl))
              cases g1 with
              | tup hb rb => _
              cases g2 with
              | tup hd rd => _
            · have h1 : i < xs.length := Nat.lt_of_lt_of_le hi (Nat.min_le_left _ _)
              have h2 : i < ys.length := Nat.lt_of_lt_of_le hi (Nat.min_le_right _ _)
              rw [← rb.length] at h1
              rw [← rd.length] at h2
              exact ⟨_, _, _, _, sqt_unm hb, sqt_unm hd, List.getElem?_eq_getElem h1, List.getElem?_eq_getElem h2⟩
            · obtain ⟨T, z, u, e1, e2, e3, e4, e5⟩ := y
              subst e1 e3
              obtain ⟨d1, hd1, q1⟩ := rb.get (e4 _ (sqt_unm hb))
              obtain ⟨d2, hd2, q2⟩ := rd.get (e5 _ (sqt_unm hd))
              refine ⟨Ext.new e2, fun _ l => l.upd (fun _ z => nomatch z), ?_⟩
              rw [List.getD_eq_getElem?_getD, hd1, List.getD_eq_getElem?_getD, hd2]
              exact new_tup g.2 e2 (.cons q1 (.cons q2 .nil))
            · have h1 := rb.length
              have h2 := rd.length
              exact ⟨_, _, sqt_unm hb, sqt_unm hd, by omega⟩
end

/-! ### targets -/
theorem set_comm' {α : Type} (l : List α) (i j : Nat) (x y : α) (h : i ≠ j) : (l.set i x).set j y = (l.set j y).set i x := List.set_comm x y h
theorem wipe_out (σ : List (Option V)) (j : Nat) (x : Option V) : ∀ vs : List Nat, j ∉ vs → wipe (σ.set j x) vs = (wipe σ vs).set j x
  | [], _ => rfl
  | v :: vs, h => by
    have h1 : v ≠ j := fun e => h (by rw [e]; exact List.mem_cons_self)
    have h2 : j ∉ vs := fun e => h (List.mem_cons_of_mem _ e)
    show (wipe (σ.set j x) vs).set v none = ((wipe σ vs).set v none).set j x
    rw [wipe_out σ j x vs h2, set_comm' _ j v _ _ (Ne.symm h1)]
theorem wipe_in (σ : List (Option V)) (j : Nat) (x : Option V) : ∀ vs : List Nat, j ∈ vs → wipe (σ.set j x) vs = wipe σ vs
  | v :: vs, h => by
    show (wipe (σ.set j x) vs).set v none = (wipe σ vs).set v none
    by_cases h2 : j ∈ vs
    · rw [wipe_in σ j x vs h2]
    · have e : j = v := (List.mem_cons.mp h).resolve_right h2
      rw [wipe_out σ j x vs h2, e, List.set_set]
def TgR (K : PySem.W.Frag) (vs : List Nat) (g : TG) (d : D) (ds ds' : List Sd) : Prop := ∀ H0 M0 gs M b H σ v, Stt K H0 M0 gs M b H σ ds → Rp K (msk M H) v d → ∀ Q : L2.St → Hp → Prop,
  (∀ σ', Stt K H0 M0 gs M b H σ' ds' → wipe σ' vs = wipe σ vs → Q σ' H) → g v σ H Q
def TgsR (K : PySem.W.Frag) (vs : List Nat) (g : TGs) (es : List D) (ds ds' : List Sd) : Prop := ∀ H0 M0 gs M b H σ ws, Stt K H0 M0 gs M b H σ ds → RpA K (msk M H) ws es → ∀ Q : L2.St → Hp → Prop,
  (∀ σ', Stt K H0 M0 gs M b H σ' ds' → wipe σ' vs = wipe σ vs → Q σ' H) → g ws σ H Q
section
variable {K : PySem.W.Frag} {vs : List Nat} {g : TG} {t : TGs} {d : D} {es : List D} {ds ds1 ds2 : List Sd}
theorem tg_name {j : Nat} (h : j ∈ vs := by decide) : TgR K vs (gName j) d ds (ds.set j (.dat d)) := fun H0 M0 gs M b H σ v S r Q k => k _ (S.set r) (wipe_in _ _ _ _ h)
theorem tgs_nil : TgsR K vs gNil [] ds ds := fun H0 M0 gs M b H σ ws S r Q k => by
  cases r
  exact ⟨rfl, k σ S rfl⟩
theorem tgs_cons (h1 : TgR K vs g d ds ds1) (h2 : TgsR K vs t es ds1 ds2) : TgsR K vs (gCons g t) (d :: es) ds ds2 := fun H0 M0 gs M b H σ ws S r Q k => by
  cases r with
  | cons r1 r2 => exact ⟨_, _, rfl, h1 H0 M0 gs M b H σ _ S r1 _ fun σ1 S1 e1 => h2 H0 M0 gs M b H σ1 _ S1 r2 Q fun σ2 S2 e2 => k σ2 S2 (e2.trans e1)⟩
theorem tg_tup {n : Nat} (h : TgsR K vs t es ds ds1) (hl : es.length = n := by rfl) : TgR K vs (gTup K n t) (.tup es) ds ds1 := fun H0 M0 gs M b H σ v S r Q k => by
  cases r with
  | tup hs ha => exact ⟨_, _, rfl, sqt_unm hs, by rw [ha.length, hl], h H0 M0 gs M b H σ _ S ha Q k⟩
end
/-- target = e, a tuple's parts within -/
theorem ws_tgt {G : Gx} {b b' : Nat} {te : TE} {g : TG} {vs : List Nat} {ds : List Sd} {R : D → Prop} {E : DE} (h : EvS G true b b' te ds R) (k : ∀ d, R d → ∃ ds', TgR G.K vs g d ds ds' ∧ E.nx ds' b') : Wt G b (tAsg te g) ds E := fun gs M H σ S Dn w =>
  h gs M H σ S _ fun v d H' r e l rp => by
    obtain ⟨ds', h1, h2⟩ := k d r
    exact h1 _ _ gs M b' H' σ v (S.step e l) rp _ fun σ' S' _ => w.nx M b' H' σ' ds' S' h2
theorem w_tgt {G : Gx} {b b' : Nat} {te : TE} {g : TG} {vs : List Nat} {ds ds' : List Sd} {d : D} {E : DE} (h : EvD G true b b' te ds d) (t : TgR G.K vs g d ds ds') (k : E.nx ds' b') : Wt G b (tAsg te g) ds E :=
  ws_tgt h fun x e => ⟨ds', by rw [e]; exact t, k⟩

/-! ### for -/
theorem Stt.ghosts {K : PySem.W.Frag} {H0 H : Hp} {M0 M : Addr → Prop} {b : Nat} {σ : List (Option V)} {ds : List Sd} {gs : List (V × D)} (S : Stt K H0 M0 gs M b H σ ds) {hs : List (V × D)} (h : ∀ q ∈ hs, Rp K (msk M H) q.1 q.2) : Stt K H0 M0 (hs ++ gs) M b H σ ds :=
  ⟨S.ext, S.m0, S.new, S.liv, S.lim, S.len, S.sl, S.inj, S.ownNew, fun q hq => (List.mem_append.mp hq).elim (h q) (S.gh q)⟩
theorem Stt.unghosts {K : PySem.W.Frag} {H0 H : Hp} {M0 M : Addr → Prop} {b : Nat} {σ : List (Option V)} {ds : List Sd} {gs hs : List (V × D)} (S : Stt K H0 M0 (hs ++ gs) M b H σ ds) : Stt K H0 M0 gs M b H σ ds :=
  ⟨S.ext, S.m0, S.new, S.liv, S.lim, S.len, S.sl, S.inj, S.ownNew, fun q hq => S.gh q (List.mem_append_right _ hq)⟩
theorem Stt.gh' {K : PySem.W.Frag} {H0 H : Hp} {M0 M : Addr → Prop} {b : Nat} {σ : List (Option V)} {ds : List Sd} {gs hs : List (V × D)} (S : Stt K H0 M0 (hs ++ gs) M b H σ ds) : Gh K hs M H := ⟨fun q hq => S.gh q (List.mem_append_left _ hq), S.liv⟩
theorem Wants.ghosts {G : Gx} {gs hs : List (V × D)} {E : DE} {Dn : Ends} (w : Wants G gs E Dn) : Wants G (hs ++ gs) E Dn :=
  ⟨fun M b H σ ds S e => w.nx M b H σ ds S.unghosts e, fun M b H σ ds v d S e r o => w.rt M b H σ ds v d S.unghosts e r o, fun M b H σ ds S e => w.bk M b H σ ds S.unghosts e, fun M b H σ ds S e => w.ct M b H σ ds S.unghosts e⟩
/-- for .. in ..: I what holds ahead of turn i -/
theorem w_for {G : Gx} {b b1 : Nat} {wi : TI} {g : TG} {tb : TS} {ds : List Sd} {E : DE} {n : Nat} {it : Nat → D} (vs : List Nat) (I : Nat → List Sd → Nat → Prop) (hi : EvI G b b1 wi ds n it) (h0 : I 0 ds b1)
    (hs : ∀ i ds' b', i < n → I i ds' b' → ∃ ds'', TgR G.K vs g (it i) ds' ds'' ∧ Wt G b' tb ds'' { E with nx := I (i + 1), ct := I (i + 1), bk := E.nx }) (hd : ∀ ds' b', I n ds' b' → E.nx ds' b') : Wt G b (tFor wi g tb) ds E := fun gs M H σ S Dn w =>
  hi gs M H σ S _ fun J gs' H' e l hg ok => by
    have S1 : Stt G.K G.H0 G.M0 (gs' ++ gs) M b1 H' σ ds := (S.step e l).ghosts hg
    refine ⟨fun i m σ H => m = n - i ∧ i ≤ n ∧ ∃ M b ds', Stt G.K G.H0 G.M0 (gs' ++ gs) M b H σ ds' ∧ I i ds' b, ⟨n, by omega, Nat.zero_le _, M, b1, ds, S1, h0⟩, ?_⟩
    rintro i m σ2 H2 ⟨rfl, hn, M2, b2, ds2, S2, i2⟩
    by_cases hlt : i < n
    · refine .inr ⟨ok.go i M2 H2 S2.gh' hlt, fun σ H => ∃ M b ds', Stt G.K G.H0 G.M0 (gs' ++ gs) M b H σ ds' ∧ I (i + 1) ds' b, fun σ' H' z => ⟨n - (i + 1), by omega, rfl, hlt, z⟩, fun x H3 y => ?_⟩
      obtain ⟨x1, x2, x3⟩ := ok.yld i M2 H2 S2.gh' hlt x H3 y
      obtain ⟨ds'', t1, t2⟩ := hs i ds2 b2 hlt i2
      refine t1 _ _ _ M2 b2 H3 σ2 x (S2.step x1 (x2 _ S2.lim)) x3 _ fun σ4 S4 _ => ?_
      exact t2 _ M2 H3 σ4 S4 _ ⟨fun M b H σ ds S e => ⟨M, b, ds, S, e⟩, fun M b H σ ds v d S e r o => w.rt M b H σ ds v d S.unghosts e r o, fun M b H σ ds S e => w.nx M b H σ ds S.unghosts e, fun M b H σ ds S e => ⟨M, b, ds, S, e⟩⟩
    · have en : i = n := by omega
      subst en
      exact .inl ⟨ok.stop M2 H2 S2.gh', w.nx M2 b2 H2 σ2 ds2 S2.unghosts (hd ds2 b2 i2)⟩
/-- while ..: I holds ahead of each turn, μ falls -/
theorem w_while {G : Gx} {b : Nat} {tc : TT} {tb : TS} {ds : List Sd} {E : DE} (I : Nat → List Sd → Nat → Prop) (m0 : Nat) (h0 : I m0 ds b)
    (hs : ∀ m ds' b', I m ds' b' → ∃ c : Bool, EtD G b' b' tc ds' c ∧ (c = true → Wt G b' tb ds' { E with nx := fun ds2 b2 => ∃ m', m' < m ∧ I m' ds2 b2, ct := fun ds2 b2 => ∃ m', m' < m ∧ I m' ds2 b2, bk := E.nx }) ∧ (c = false → E.nx ds' b')) : Wt G b (tWhile tc tb) ds E := fun gs M H σ S Dn w => by
  refine ⟨fun m σ H => ∃ M b ds', Stt G.K G.H0 G.M0 gs M b H σ ds' ∧ I m ds' b, ⟨m0, M, b, ds, S, h0⟩, ?_⟩
  rintro m σ2 H2 ⟨M2, b2, ds2, S2, i2⟩
  obtain ⟨c, h1, h2, h3⟩ := hs m ds2 b2 i2
  refine h1 gs M2 H2 σ2 S2 _ fun c' H3 r e l => ?_
  subst r
  have S3 := S2.step e l
  cases c' with
  | true =>
    refine ⟨fun σ H => ∃ m', m' < m ∧ ∃ M b ds', Stt G.K G.H0 G.M0 gs M b H σ ds' ∧ I m' ds' b, fun σ' H' z => z, ?_⟩
    exact h2 rfl gs M2 H3 σ2 S3 _ ⟨fun M b H σ ds S ⟨m', z1, z2⟩ => ⟨m', z1, M, b, ds, S, z2⟩, w.rt, w.nx, fun M b H σ ds S ⟨m', z1, z2⟩ => ⟨m', z1, M, b, ds, S, z2⟩⟩
  | false => exact w.nx M2 b2 H3 σ2 ds2 S3 (h3 rfl)

/-! ### comprehensions -/
def wipeD (ds : List Sd) : List Nat → List Sd
  | [] => ds
  | v :: vs => (wipeD ds vs).set v .un
theorem Stt.wipe {K : PySem.W.Frag} {H0 H : Hp} {M0 M : Addr → Prop} {b : Nat} {σ : List (Option V)} {ds : List Sd} {gs : List (V × D)} (S : Stt K H0 M0 gs M b H σ ds) : ∀ vs : List Nat, Stt K H0 M0 gs M b H (L2.wipe σ vs) (wipeD ds vs)
  | [] => S
  | v :: vs => (Stt.wipe S vs).forget v none
/-- a list that is being made -/
theorem Stt.grow {K : PySem.W.Frag} {H0 H H' : Hp} {M0 M : Addr → Prop} {b b' : Nat} {σ : List (Option V)} {ds : List Sd} {gs : List (V × D)} (S : Stt K H0 M0 gs M b H σ ds) {p : Addr} (hp : H p = none) (e : Ext H H') (l : Lim b' H') (hl : H' p ≠ none) :
    Stt K H0 M0 gs (fun a => M a ∨ a = p) b' H' σ ds := S.growP (P := fun a => a = p) (fun a h => by rw [h]; exact hp) e l fun a h => by rw [h]; exact hl
/-! ### lists that nothing else knows -/
def EvO (G : Gx) (b b' : Nat) (te : TE) (ds : List Sd) (R : List D → Prop) : Prop :=
  ∀ gs M H σ, G.st gs M b H σ ds → ∀ Q : VK, (∀ a vs xs H', R xs → Ext H H' → Lim b' H' → H a = none → H' a = some (.lst vs) → RpA G.K (msk (fun c => M c ∨ c = a) H') vs xs → Q (.ref a) H') → te σ H Q
abbrev EoD (G : Gx) (b b' : Nat) (te : TE) (ds : List Sd) (xs : List D) : Prop := EvO G b b' te ds (fun x => x = xs)
theorem EvO.imp {G : Gx} {b b' : Nat} {te : TE} {ds : List Sd} {R R' : List D → Prop} (h : EvO G b b' te ds R) (i : ∀ xs, R xs → R' xs) : EvO G b b' te ds R' := fun gs M H σ S Q k => h gs M H σ S Q fun a vs xs H' r => k a vs xs H' (i xs r)
theorem EvO.evs {G : Gx} {p : Bool} {b b' : Nat} {te : TE} {ds : List Sd} {R : List D → Prop} (h : EvO G b b' te ds R) : EvS G p b b' te ds (fun d => ∃ xs, d = .lst xs ∧ R xs) := fun gs M H σ S Q k =>
  h gs M H σ S Q fun a vs xs H' r e l hn ha rr => by
    have nM : ¬ M a := fun z => S.liv a z hn
    refine k _ _ H' ⟨xs, rfl, r⟩ e l (.lst ?_ (rr.mono (msk_sub fun c hc => ?_)))
    · rw [msk_no]
      · exact ha
      · cases p with
        | true => exact nM
        | false => exact fun z => nM (S.m0 a z)
    · cases p with
      | true => exact .inl hc
      | false => exact .inl (S.m0 c hc)
theorem EvO.evd {G : Gx} {p : Bool} {b b' : Nat} {te : TE} {ds : List Sd} {xs : List D} (h : EoD G b b' te ds xs) : EvD G p b b' te ds (.lst xs) := (EvO.evs h).imp fun d ⟨ys, e1, e2⟩ => by rw [e1, e2]
theorem Stt.adopt {K : PySem.W.Frag} {H0 H H' : Hp} {M0 M : Addr → Prop} {b b' : Nat} {σ : List (Option V)} {ds : List Sd} {gs : List (V × D)} {i : Nat} {p : Addr} {vs : List V} {xs : List D} (S : Stt K H0 M0 gs M b H σ ds) (hp : H p = none) (e : Ext H H') (l : Lim b' H') (hl : H' p = some (.lst vs))
    (r : RpA K (msk (fun a => M a ∨ a = p) H') vs xs) : Stt K H0 M0 gs (fun a => M a ∨ a = p) b' H' (σ.set i (some (.ref p))) (ds.set i (.own xs)) :=
  S.adoptG (P := fun a => a = p) (fun a h => by rw [h]; exact hp) e l (fun a h => by rw [h, hl]; exact fun z => nomatch z) ⟨p, vs, rfl, .inr rfl, hl, r⟩ fun a h => by cases h; rfl
section
variable {G : Gx} {p : Bool} {b b' b1 b2 : Nat} {te ta tb : TE} {tA : TA} {ds : List Sd} {R : List D → Prop} {E : DE} {i : Nat}
/-- name = .., our own from now on -/
theorem ws_ownE (h : EvO G b b' te ds R) (k : ∀ xs, R xs → E.nx (ds.set i (.own xs)) b') : Wt G b (tAsg te (gName i)) ds E := fun gs M H σ S Dn w =>
  h gs M H σ S _ fun a vs xs H' r e l hn ha rr => w.nx _ b' H' _ _ (S.adopt hn e l ha rr) (k xs r)
theorem w_ownE {xs : List D} (h : EoD G b b' te ds xs) (k : E.nx (ds.set i (.own xs)) b') : Wt G b (tAsg te (gName i)) ds E := ws_ownE h fun ys e => by rw [e]; exact k
/-- return of what nothing else knows -/
theorem ws_retE (h : EvO G b b' te ds R) (k : ∀ xs, R xs → E.rt (.lst xs) ds b') (ho : E.ro2 = 0 := by rfl) : Wt G b (tRet te) ds E := fun gs M H σ S Dn w =>
  h gs M H σ S _ fun a vs xs H' r e l hn ha rr => by
    have nM : ¬ M a := fun z => S.liv a z hn
    have rm : RpA G.K (msk (fun c => G.M0 c ∨ c = a) H') vs xs := rr.mono (msk_sub fun c hc => hc.elim (fun z => .inl (S.m0 c z)) .inr)
    exact w.rt M b' H' σ ds _ _ (S.step e l) (k xs r) (.lst (by rw [msk_no fun z => nM (S.m0 a z)]; exact ha) (rm.mono (msk_sub fun c hc => .inl hc))) fun _ => (by rw [ho]; exact ⟨a, vs, xs, rfl, rfl, S.ext.free hn, ha, rm⟩)
theorem w_retE {xs : List D} (h : EoD G b b' te ds xs) (k : E.rt (.lst xs) ds b') (ho : E.ro2 = 0 := by rfl) : Wt G b (tRet te) ds E := ws_retE h (fun ys e => by rw [e]; exact k) ho
/-- return of our own -/
theorem w_retO {xs : List D} (hi : ds[i]? = some (.own xs)) (k : E.rt (.lst xs) ds b) (ho : E.ro2 = 0 := by rfl) : Wt G b (tRet (tVar i)) ds E := fun gs M H σ S Dn w => by
  obtain ⟨a, vs, hσ, m, ha, r, n0⟩ := S.ownL hi
  have rm : RpA G.K (msk (fun c => G.M0 c ∨ c = a) H) vs xs := r.mono (msk_sub fun c hc => hc.elim (S.m0 c) fun z => by rw [z]; exact m)
  exact ⟨.ref a, hσ, w.rt M b H σ ds _ _ S k (.lst (by rw [msk_no n0]; exact ha) (rm.mono (msk_sub fun c hc => .inl hc))) fun _ => (by rw [ho]; exact ⟨a, vs, xs, rfl, rfl, S.new a m n0, ha, rm⟩)⟩
theorem eo_new {H H' : Hp} {M : Addr → Prop} {K : PySem.W.Frag} {a : Addr} {vs : List V} {xs : List D} (hn : H a = none) (r : RpA K (msk M H) vs xs) : RpA K (msk (fun c => M c ∨ c = a) (upd H a (.lst vs))) vs xs := r.mono (Kp.sub fun c o h => by
  obtain ⟨h1, h2⟩ := msk_of h
  have nc : c ≠ a := ne_of_none h2 hn
  rw [msk_no fun z => z.elim h1 nc, upd_ne nc]
  exact h2)
theorem eos_lst (h : EvA G true b b' tA ds R) (hl : ∀ xs, R xs → xs.length ≤ 100000) : EvO G b b' (tLst tA) ds R := fun gs M H σ S Q k =>
  h gs M H σ S _ fun vs es H1 r1 e1 l1 rp => ⟨by rw [rp.length]; exact Nat.le_trans (hl es r1) (by decide), fun a ha => k a vs es _ r1 (e1.trans (Ext.new ha)) (l1.upd fun _ z => nomatch z) (e1.free ha) upd_same (eo_new (H' := H1) ha rp)⟩
theorem eo_lst {es : List D} (h : EaD G true b b' tA ds es) (hl : es.length ≤ 100000 := by decide) : EoD G b b' (tLst tA) ds es := eos_lst h fun xs e => by rw [e]; exact hl
end
/-- what a comprehension makes: P i acc: what may be made of the first i items -/
theorem eos_lc {G : Gx} {b b1 b' : Nat} {wi : TI} {g : TG} {tt : TT} {te : TE} {vs : List Nat} {ds : List Sd} {n : Nat} {it : Nat → D} (c : Nat) (P : Nat → List D → Prop) (hi : EvI G b b1 wi ds n it) (hn : n ≤ 100000) (h0 : P 0 [])
    (hs : ∀ i acc, i < n → P i acc → ∃ ds'', TgR G.K vs g (it i) (wipeD ds vs) ds'' ∧ ∀ b0, ∃ kp : Bool, EtD G (b0 + c) (b0 + c) tt ds'' kp ∧ (kp = true → EvS G true (b0 + c) b0 te ds'' (fun d => P (i + 1) (acc ++ [d]))) ∧ (kp = false → P (i + 1) acc))
    (hl : ∀ acc, P n acc → acc.length ≤ n) (hm : ∀ i acc, P i acc → acc.length ≤ i) (hb : b' + n * c ≤ b1) : EvO G b b' (tLc wi g tt te vs) ds (P n) := fun gs M H σ S Q k =>
  hi gs M H σ S _ fun J gs' H1 e l hg ok => fun D hD => by
    have S1 : Stt G.K G.H0 G.M0 (gs' ++ gs) M b1 H1 σ ds := (S.step e l).ghosts hg
    have nMD : ¬ M D := fun z => S1.liv D z hD
    refine ⟨fun i m H => m = n - i ∧ i ≤ n ∧ ∃ acc es, Ext H1 H ∧ Lim (b' + (n - i) * c) H ∧ H D = some (.lst acc) ∧ RpA G.K (msk (fun a => M a ∨ a = D) H) acc es ∧ P i es, ⟨n, by omega, Nat.zero_le _, [], [], Ext.new hD, (S1.lim.mono hb).upd (fun _ z => nomatch z), upd_same, .nil, h0⟩, ?_⟩
    rintro i m H2 ⟨rfl, hin, acc, es, e2, l2, hacc, racc, p2⟩
    have S2 : Stt G.K G.H0 G.M0 (gs' ++ gs) (fun a => M a ∨ a = D) (b' + (n - i) * c) H2 σ ds := S1.grow hD e2 l2 (by rw [hacc]; exact fun z => nomatch z)
    by_cases hlt : i < n
    · refine .inr ⟨ok.go i _ H2 S2.gh' hlt, fun H => ∃ acc es, Ext H1 H ∧ Lim (b' + (n - (i + 1)) * c) H ∧ H D = some (.lst acc) ∧ RpA G.K (msk (fun a => M a ∨ a = D) H) acc es ∧ P (i + 1) es, fun H' z => ⟨n - (i + 1), by omega, rfl, hlt, z⟩, fun x H3 y => ?_⟩
      obtain ⟨x1, x2, x3⟩ := ok.yld i _ H2 S2.gh' hlt x H3 y
      obtain ⟨ds'', t1, t2⟩ := hs i es hlt p2
      have ec : b' + (n - i) * c = (b' + (n - (i + 1)) * c) + c := by
        have e3 : n - i = (n - (i + 1)) + 1 := by omega
        rw [e3, Nat.add_mul, Nat.one_mul, Nat.add_assoc]
      have S3 := (S2.step x1 (x2 _ S2.lim)).wipe vs
      rw [ec] at S3
      refine t1 _ _ _ _ _ H3 _ x S3 x3 _ fun σ4 S4 ew => ⟨?_, ?_⟩
      · rw [ew]
        have ww : ∀ ws : List Nat, (∀ v ∈ ws, v ∈ vs) → L2.wipe (L2.wipe σ ws) vs = L2.wipe σ vs := fun ws => by
          induction ws with
          | nil => intro _; rfl
          | cons v ws ih =>
            intro hv
            show L2.wipe ((L2.wipe σ ws).set v none) vs = L2.wipe σ vs
            rw [wipe_in _ _ _ _ (hv v List.mem_cons_self), ih fun u hu => hv u (List.mem_cons_of_mem _ hu)]
        exact ww vs fun _ h => h
      · obtain ⟨kp, q1, q2, q3⟩ := t2 (b' + (n - (i + 1)) * c)
        refine q1 _ _ H3 σ4 S4 _ fun kp' H4 r4 e4 l4 => ?_
        subst r4
        have hacc4 : H4 D = some (.lst acc) := e4.keep _ _ (x1.keep _ _ hacc fun _ z => nomatch z) fun _ z => nomatch z
        cases kp' with
        | false =>
          show ∃ acc es, _
          exact ⟨acc, es, (e2.trans x1).trans e4, l4.mono (Nat.le_add_right _ _), hacc4, (racc.mono (msk_mono x1.toKp)).mono (msk_mono e4.toKp), q3 rfl⟩
        | true =>
          show te σ4 H4 _
          refine q2 rfl _ _ H4 σ4 (S4.step e4 l4) _ fun v d H5 r5 e5 l5 rp5 => ?_
          have hacc5 : H5 D = some (.lst acc) := e5.keep _ _ hacc4 fun _ z => nomatch z
          have len : acc.length ≤ n := by
            rw [racc.length]
            exact Nat.le_trans (hm i es p2) hin
          refine ⟨acc, hacc5, Nat.lt_of_le_of_lt (Nat.le_trans len hn) (by decide), acc ++ [v], es ++ [d], ?_, l5.upd (fun _ z => nomatch z), upd_same, ?_, r5⟩
          · exact (((e2.trans x1).trans e4).trans e5).mut hD
          · rw [msk_upd (.inr rfl)]
            exact (((racc.mono (msk_mono x1.toKp)).mono (msk_mono e4.toKp)).mono (msk_mono e5.toKp)).append (.cons rp5 .nil)
    · have en : i = n := by omega
      subst en
      refine .inl ⟨ok.stop _ H2 S2.gh', ?_⟩
      exact k D acc es H2 p2 (e.trans e2) (by have q := l2; rw [Nat.sub_self, Nat.zero_mul] at q; exact q) (e.free hD) hacc racc
theorem evs_lc {G : Gx} {p : Bool} {b b1 b' : Nat} {wi : TI} {g : TG} {tt : TT} {te : TE} {vs : List Nat} {ds : List Sd} {n : Nat} {it : Nat → D} (c : Nat) (P : Nat → List D → Prop) (hi : EvI G b b1 wi ds n it) (hn : n ≤ 100000) (h0 : P 0 [])
    (hs : ∀ i acc, i < n → P i acc → ∃ ds'', TgR G.K vs g (it i) (wipeD ds vs) ds'' ∧ ∀ b0, ∃ kp : Bool, EtD G (b0 + c) (b0 + c) tt ds'' kp ∧ (kp = true → EvS G true (b0 + c) b0 te ds'' (fun d => P (i + 1) (acc ++ [d]))) ∧ (kp = false → P (i + 1) acc))
    (hl : ∀ acc, P n acc → acc.length ≤ n) (hm : ∀ i acc, P i acc → acc.length ≤ i) (hb : b' + n * c ≤ b1) : EvS G p b b' (tLc wi g tt te vs) ds (fun d => ∃ acc, d = .lst acc ∧ P n acc) := (eos_lc c P hi hn h0 hs hl hm hb).evs
/-- each item by f, those that kp lets by; nothing drawn -/
theorem ev_lc {G : Gx} {p : Bool} {b b' : Nat} {wi : TI} {g : TG} {tt : TT} {te : TE} {vs : List Nat} {ds : List Sd} {n : Nat} {it : Nat → D} (kp : Nat → Bool) (f : Nat → D) (hi : EvI G b b' wi ds n it) (hn : n ≤ 100000)
    (hs : ∀ i, i < n → ∃ ds'', TgR G.K vs g (it i) (wipeD ds vs) ds'' ∧ ∀ b0, EtD G b0 b0 tt ds'' (kp i) ∧ (kp i = true → EvD G true b0 b0 te ds'' (f i))) : EvD G p b b' (tLc wi g tt te vs) ds (.lst (((List.range n).filter kp).map f)) := by
  refine (evs_lc 0 (fun i acc => acc = ((List.range i).filter kp).map f) hi hn rfl ?_ ?_ ?_ (by omega)).imp fun d ⟨acc, e1, e2⟩ => by rw [e1, e2]
  · intro i acc hlt e
    obtain ⟨ds'', t1, t2⟩ := hs i hlt
    refine ⟨ds'', t1, fun b0 => ⟨kp i, (t2 _).1, fun h => ((t2 b0).2 h).imp fun d ed => ?_, fun h => ?_⟩⟩
    · rw [ed, e, List.range_succ, List.filter_append, List.map_append]
      simp [h]
    · rw [e, List.range_succ, List.filter_append, List.map_append]
      simp [h]
  · intro acc e
    rw [e, List.length_map]
    exact Nat.le_trans (List.length_filter_le _ _) (by rw [List.length_range]; exact Nat.le_refl _)
  · intro i acc e
    rw [e, List.length_map]
    exact Nat.le_trans (List.length_filter_le _ _) (by rw [List.length_range]; exact Nat.le_refl _)
theorem et_yes {G : Gx} {b : Nat} {ds : List Sd} : EtD G b b tYes ds true := fun gs M H σ S Q k => k true H rfl (Ext.refl H) S.lim
/-- without a test -/
theorem ev_lc1 {G : Gx} {p : Bool} {b b' : Nat} {wi : TI} {g : TG} {te : TE} {vs : List Nat} {ds : List Sd} {n : Nat} {it : Nat → D} (f : Nat → D) (hi : EvI G b b' wi ds n it) (hn : n ≤ 100000)
    (hs : ∀ i, i < n → ∃ ds'', TgR G.K vs g (it i) (wipeD ds vs) ds'' ∧ ∀ b0, EvD G true b0 b0 te ds'' (f i)) : EvD G p b b' (tLc wi g tYes te vs) ds (.lst ((List.range n).map f)) := by
  have h := ev_lc (tt := tYes) (p := p) (fun _ => true) f hi hn fun i hlt => let ⟨ds'', t1, t2⟩ := hs i hlt; ⟨ds'', t1, fun b0 => ⟨et_yes, fun _ => t2 b0⟩⟩
  have e : (List.range n).filter (fun _ => true) = List.range n := List.filter_eq_self.mpr fun _ _ => rfl
  rw [e] at h
  exact h
end Sh

/-! Sh6: operators and built-ins by data. -/
namespace Sh
open PySem PySem.Spec PyProof.Rows L2

/-! ### several kinds at once -/
def rAddS : R2 := fun x y H Q => ∃ i j, x = .str i ∧ y = .str j ∧ i.length + j.length ≤ sizeLine ∧ Q (.str (i ++ j)) H
def rAddA (K : PySem.W.Frag) : R2 := fun x y H Q => rI0 (fun i j => V.int (i + j)) x y H Q ∨ rAddS x y H Q ∨ rCat x y H Q ∨ rCatA K x y H Q
def rSubA : R2 := rI0 fun i j => V.int (i - j)
def rMulA : R2 := fun x y H Q => rI CMulW (fun i j => V.int (i * j)) x y H Q ∨ rRep x y H Q
def rDivA : R2 := rI CDivW fun i j => V.int (i / j)
def rModA : R2 := rI (fun _ j => 0 < j) fun i j => V.int (i % j)
def rPowA : R2 := rI CPowW fun i j => V.int (i ^ j.toNat)
def rLtS (f : List Nat → List Nat → Bool) : R2 := fun x y H Q => ∃ i j, x = .str i ∧ y = .str j ∧ Q (.bl (f i.cps.toList j.cps.toList)) H
def rLt : R2 := rI0 fun i j => V.bl (decide (i < j))
def rLe : R2 := rI0 fun i j => V.bl (decide (i ≤ j))
def rGt : R2 := rI0 fun i j => V.bl (decide (j < i))
def rGe : R2 := rI0 fun i j => V.bl (decide (j ≤ i))
section
variable {X : Cx}
theorem op_addA : OpR X (binaryOp .Add) (rAddA X.K) := op_add.or (op_add_str.or (op_cat.or op_catA))
theorem op_subA : OpR X (binaryOp .Sub) rSubA := op_sub
theorem op_mulA : OpR X (binaryOp .Mult) rMulA := op_mulW.or op_rep
theorem op_divA : OpR X (binaryOp .FloorDiv) rDivA := op_fdivW
theorem op_modA : OpR X (binaryOp .Mod) rModA := op_mod
theorem op_powA : OpR X (binaryOp .Pow) rPowA := op_powW
theorem op_ltA : OpR X (compareOp .Lt) rLt := op_lt
theorem op_leA : OpR X (compareOp .LtE) rLe := op_le
theorem op_gtA : OpR X (compareOp .Gt) rGt := op_gt
theorem op_geA : OpR X (compareOp .GtE) rGe := op_ge
end
theorem iop_of {op : Operator} {X : Cx} {r : R2} (h : OpR X (inplaceOp op) r) : PIp X op r := h

/-! ### ints -/
section
variable {K : PySem.W.Frag} {i j : Int}
theorem op2_I0 {g : Int → Int → V} {z : D} (h : ∀ H, Rp K H (g i j) z) : Op2D K (rI0 g) (.int i) (.int j) z := fun N b H v u Q hN l r1 r2 k => by
  cases r1
  cases r2
  exact ⟨i, j, rfl, rfl, k _ _ H rfl (Ext.refl H) l (h _)⟩
theorem op2_I {C : Int → Int → Prop} {g : Int → Int → V} {z : D} (hc : C i j) (h : ∀ H, Rp K H (g i j) z) : Op2D K (rI C g) (.int i) (.int j) z := fun N b H v u Q hN l r1 r2 k => by
  cases r1
  cases r2
  exact ⟨i, j, rfl, rfl, hc, k _ _ H rfl (Ext.refl H) l (h _)⟩
theorem Op2.inl {r r' : R2} {x y : D} {R : D → Prop} (h : Op2 K r x y R) : Op2 K (fun x y H Q => r x y H Q ∨ r' x y H Q) x y R := fun N b H v u Q hN l r1 r2 k => .inl (h N b H v u Q hN l r1 r2 k)
theorem Op2.inr {r r' : R2} {x y : D} {R : D → Prop} (h : Op2 K r' x y R) : Op2 K (fun x y H Q => r x y H Q ∨ r' x y H Q) x y R := fun N b H v u Q hN l r1 r2 k => .inr (h N b H v u Q hN l r1 r2 k)
theorem o_add : Op2D K (rAddA K) (.int i) (.int j) (.int (i + j)) := Op2.inl (op2_I0 fun _ => .int _)
theorem o_sub : Op2D K rSubA (.int i) (.int j) (.int (i - j)) := op2_I0 fun _ => .int _
theorem o_mul (h : CMulW i j) : Op2D K rMulA (.int i) (.int j) (.int (i * j)) := Op2.inl (op2_I h fun _ => .int _)
theorem o_div (h : CDivW i j) : Op2D K rDivA (.int i) (.int j) (.int (i / j)) := op2_I h fun _ => .int _
theorem o_mod (h : 0 < j) : Op2D K rModA (.int i) (.int j) (.int (i % j)) := op2_I h fun _ => .int _
theorem o_pow (h : CPowW i j) : Op2D K rPowA (.int i) (.int j) (.int (i ^ j.toNat)) := op2_I h fun _ => .int _
theorem o_lt : Op2D K rLt (.int i) (.int j) (.bl (decide (i < j))) := op2_I0 fun _ => .bl _
theorem o_le : Op2D K rLe (.int i) (.int j) (.bl (decide (i ≤ j))) := op2_I0 fun _ => .bl _
theorem o_gt : Op2D K rGt (.int i) (.int j) (.bl (decide (j < i))) := op2_I0 fun _ => .bl _
theorem o_ge : Op2D K rGe (.int i) (.int j) (.bl (decide (j ≤ i))) := op2_I0 fun _ => .bl _
theorem u_neg : Op1D K (rU fun i => V.int (-i)) (.int i) (.int (-i)) := fun N b H v Q hN l r k => by
  cases r
  exact ⟨i, rfl, k _ _ H rfl (Ext.refl H) l (.int _)⟩
end
/-- a product of small numbers: by the bounds -/
theorem cmul_of {i j : Int} (a b : Nat) (ha : i.natAbs < 2 ^ a) (hb : j.natAbs < 2 ^ b) (h : a + b ≤ 1000000 := by decide) (h0 : 0 < a := by decide) (h1 : 0 < b := by decide) : CMulW i j := wide_mul ha hb h0 h1 h

/-! ### == -/
mutual
/-- data without objects of one's own -/
def D.py : D → PyData
  | .non => .none
  | .bl b => .bool b
  | .int i => .int i
  | .str s => .str s
  | .lst xs => .list (D.pyA xs)
  | .tup xs => .tuple (D.pyA xs)
  | _ => .dict []
def D.pyA : List D → List PyData
  | [] => []
  | x :: xs => x.py :: D.pyA xs
end
mutual
/-- no deeper than n, no objects of one's own, texts of signs -/
def D.shp : Nat → D → Bool
  | _, .non => true
  | _, .bl _ => true
  | _, .int _ => true
  | _, .str s => PyData.canLay0 (.str s)
  | 0, .lst _ => false
  | n + 1, .lst xs => D.shpA n xs
  | 0, .tup _ => false
  | n + 1, .tup xs => D.shpA n xs
  | _, _ => false
def D.shpA : Nat → List D → Bool
  | _, [] => true
  | n, x :: xs => D.shp n x && D.shpA n xs
end
mutual
theorem shp_lay : ∀ (n : Nat) (d : D), D.shp n d = true → d.py.canLay0 = true ∧ d.py.depth ≤ n
  | n, .non, _ => ⟨rfl, by simp only [D.py, PyData.depth]; omega⟩
  | n, .bl b, _ => ⟨rfl, by simp only [D.py, PyData.depth]; omega⟩
  | n, .int b, _ => ⟨rfl, by simp only [D.py, PyData.depth]; omega⟩
  | n, .str b, h => ⟨by simpa [D.shp, D.py] using h, by simp only [D.py, PyData.depth]; omega⟩
  | 0, .lst xs, h => by simp [D.shp] at h
  | n + 1, .lst xs, h => by
    have q := shpA_lay n xs (by simpa [D.shp] using h)
    exact ⟨by simp only [D.py, PyData.canLay0]; exact q.1, by simp only [D.py, PyData.depth]; omega⟩
  | 0, .tup xs, h => by simp [D.shp] at h
  | n + 1, .tup xs, h => by
    have q := shpA_lay n xs (by simpa [D.shp] using h)
    exact ⟨by simp only [D.py, PyData.canLay0]; exact q.1, by simp only [D.py, PyData.depth]; omega⟩
  | n, .dct _, h => by simp [D.shp] at h
  | n, .dtt _, h => by simp [D.shp] at h
  | n, .ins _ _, h => by simp [D.shp] at h
  | n, .exc _ _, h => by simp [D.shp] at h
  | n, .purse, h => by simp [D.shp] at h
  | n, .scr _, h => by simp [D.shp] at h
  | n, .ref _, h => by simp [D.shp] at h
  | n, .ty _, h => by simp [D.shp] at h
theorem shpA_lay : ∀ (n : Nat) (xs : List D), D.shpA n xs = true → PyData.canLayAll0 (D.pyA xs) = true ∧ PyData.depthAll (D.pyA xs) ≤ n
  | n, [], _ => ⟨rfl, by simp only [D.pyA, PyData.depthAll]; omega⟩
  | n, x :: xs, h => by
    simp only [D.shpA, Bool.and_eq_true] at h
    have q1 := shp_lay n x h.1
    have q2 := shpA_lay n xs h.2
    exact ⟨by simp only [D.pyA, PyData.canLayAll0, q1.1, q2.1, Bool.and_self], by simp only [D.pyA, PyData.depthAll]; exact Nat.max_le.mpr ⟨q1.2, q2.2⟩⟩
end
theorem shp_shaped {d : D} (h : D.shp 64 d = true) : SeqAt.shaped d.py = true := by
  obtain ⟨h1, h2⟩ := shp_lay 64 d h
  unfold SeqAt.shaped
  rw [h1, decide_eq_true h2]
  rfl
mutual
theorem Rp.dp {K : PySem.W.Frag} {H : Hp} : ∀ {n : Nat} {d : D} {v : V}, Rp K H v d → D.shp n d = true → Dp K H v d.py
  | _, .non, _, .non, _ => .non
  | _, .bl b, _, .bl _, _ => .bl b
  | _, .int b, _, .int _, _ => .int b
  | _, .str b, _, .str _, _ => .str b
  | 0, .lst _, _, _, h => by simp [D.shp] at h
  | n + 1, .lst xs, _, .lst ha r, h => .lst (SqL.of ha) (RpA.dp r (by simpa [D.shp] using h))
  | 0, .tup _, _, _, h => by simp [D.shp] at h
  | n + 1, .tup xs, _, .tup ha r, h => .tup ha (RpA.dp r (by simpa [D.shp] using h))
  | _, .dct _, _, _, h => by simp [D.shp] at h
  | _, .dtt _, _, _, h => by simp [D.shp] at h
  | _, .ins _ _, _, _, h => by simp [D.shp] at h
  | _, .exc _ _, _, _, h => by simp [D.shp] at h
  | _, .purse, _, _, h => by simp [D.shp] at h
  | _, .scr _, _, _, h => by simp [D.shp] at h
  | _, .ref _, _, _, h => by simp [D.shp] at h
  | _, .ty _, _, _, h => by simp [D.shp] at h
theorem RpA.dp {K : PySem.W.Frag} {H : Hp} : ∀ {n : Nat} {ds : List D} {vs : List V}, RpA K H vs ds → D.shpA n ds = true → DpAll K H vs (D.pyA ds)
  | _, [], _, .nil, _ => .nil
  | n, d :: ds, _, .cons r rr, h => by
    simp only [D.shpA, Bool.and_eq_true] at h
    exact .cons (Rp.dp r h.1) (RpA.dp rr h.2)
end
def D.eq (x y : D) : Bool := PyData.eqv x.py y.py
section
variable {X : Cx}
theorem op_eqA (hu : X.A.units + 64 < cLine) : OpR X (compareOp .Eq) (rEqD X.K) := op_eqD hu
theorem op_neA (hu : X.A.units + 64 < cLine) : OpR X (compareOp .NotEq) (rNeD X.K) := op_neD hu
end
theorem o_eq {K : PySem.W.Frag} {x y : D} (hx : D.shp 64 x = true) (hy : D.shp 64 y = true) : Op2D K (rEqD K) x y (.bl (D.eq x y)) := fun N b H v u Q hN l r1 r2 k =>
  ⟨x.py, y.py, (r1.mono msk_all).dp hx, (r2.mono msk_all).dp hy, shp_shaped hx, shp_shaped hy, k _ _ H rfl (Ext.refl H) l (.bl _)⟩
theorem o_ne {K : PySem.W.Frag} {x y : D} (hx : D.shp 64 x = true) (hy : D.shp 64 y = true) : Op2D K (rNeD K) x y (.bl (!D.eq x y)) := fun N b H v u Q hN l r1 r2 k =>
  ⟨x.py, y.py, (r1.mono msk_all).dp hx, (r2.mono msk_all).dp hy, shp_shaped hx, shp_shaped hy, k _ _ H rfl (Ext.refl H) l (.bl _)⟩
theorem eq_int (i j : Int) : D.eq (.int i) (.int j) = decide (i = j) := by
  simp only [D.eq, D.py, PyData.eqv]
  exact Bool.beq_eq_decide_eq i j
theorem o_eqI {K : PySem.W.Frag} {i j : Int} : Op2D K (rEqD K) (.int i) (.int j) (.bl (decide (i = j))) := by
  rw [← eq_int]
  exact o_eq rfl rfl
theorem o_neI {K : PySem.W.Frag} {i j : Int} : Op2D K (rNeD K) (.int i) (.int j) (.bl (!decide (i = j))) := by
  rw [← eq_int]
  exact o_ne rfl rfl

/-! ### items -/
section
variable {K : PySem.W.Frag}
theorem atI_nn {α : Type} {xs : List α} {i : Int} {x : α} (h0 : 0 ≤ i) (h : xs[i.toNat]? = some x) : atI xs i = some x := by
  have hl : i.toNat < xs.length := (List.getElem?_eq_some_iff.mp h).1
  unfold atI ixN
  rw [if_pos h0, if_pos (by omega)]
  exact h
theorem atI_neg {α : Type} {xs : List α} {i : Int} {x : α} (h0 : i < 0) (h1 : -(xs.length : Int) ≤ i) (h : xs[(i + xs.length).toNat]? = some x) : atI xs i = some x := by
  unfold atI ixN
  rw [if_neg (by omega), if_pos h1]
  exact h
theorem RpA.atI {H : Hp} {vs : List V} {ds : List D} {i : Int} {d : D} (r : RpA K H vs ds) (h : L2.atI ds i = some d) : ∃ v, L2.atI vs i = some v ∧ Rp K H v d := by
  unfold L2.atI at h ⊢
  rw [r.length]
  cases e : ixN ds.length i with
  | none => rw [e] at h; cases h
  | some j =>
    rw [e] at h
    obtain ⟨v, h1, h2⟩ := r.getD (i := j) h
    exact ⟨v, h1, h2⟩
def rDGetA : R2 := fun x y H Q => ∃ a v, x = .ref a ∧ DGet H a y (some v) ∧ Q v H
def rIxA (K : PySem.W.Frag) : R2 := fun x y H Q => rIxL K x y H Q ∨ rIxT K x y H Q ∨ rIxS x y H Q ∨ rDGetA x y H Q
theorem ix_dict {X : Cx} (hu : X.A.units + 1 < cLine) : IxR X rDGetA := by
  intro value slice pins s σ H x y v u Q I rx ry h hs
  obtain ⟨a, w, rfl, g, q⟩ := h
  obtain rfl : v = Value.ref a := rx
  have hT := dict_typeIs I g
  have h₂ : wpAny (model X.prog X.w) X.A (getItem (.ref a) u) (EP X pins σ Q) X.xe s := d_getItem hu I g ry fun w' s3 I3 rw' => ⟨w, H, I3, rw', q⟩
  unfold subscriptTail
  refine wpAny_bind ?_
  rw [getitemInPython_of_ne hT.not_modules]
  refine wpAny_bind (wpAny_specialOf hT PySem.F.slot_dict_getitem.lookup ?_)
  have fin : wpAny (model X.prog X.w) X.A (subscripted slice false (.ref a) u) (fun r s₃ => wpAny (model X.prog X.w) X.A (letTemporaryGo value (.ref a) r >>= fun _ => pure r) (EP X pins σ Q) X.xe s₃) X.xe s := by
    rw [hs]
    exact wpAny_operating (wpAny_mono h₂ (fun r s₃ h₃ => wpAny_bind (wpAny_letTemporaryGo (wpAny_pure h₃))) fun _ _ x => x)
  first
    | exact wpAny_pure (wpAny_bind fin)
    | exact wpAny_bind fin
theorem IxR.or' {X : Cx} {r r' : R2} (h : IxR X r) (h' : IxR X r') : IxR X (fun x y H Q => r x y H Q ∨ r' x y H Q) := h.or h'
theorem ix_any {X : Cx} (hu : X.A.units + 1 < cLine) : IxR X (rIxA X.K) := IxR.or' ix_list (IxR.or' ix_tup (IxR.or' ix_str (ix_dict hu)))
theorem o_ixL {xs : List D} {i : Int} {d : D} (h : L2.atI xs i = some d) : Op2D K (rIxA K) (.lst xs) (.int i) d := fun N b H v u Q hN l r1 r2 k => by
  cases r2
  cases r1 with
  | lst ha r =>
    obtain ⟨w, h1, h2⟩ := r.atI h
    exact .inl ⟨_, _, i, w, rfl, rfl, SqL.of (msk_of ha).2, h1, k _ _ H rfl (Ext.refl H) l h2⟩
theorem o_ixT {xs : List D} {i : Int} {d : D} (h : L2.atI xs i = some d) : Op2D K (rIxA K) (.tup xs) (.int i) d := fun N b H v u Q hN l r1 r2 k => by
  cases r2
  cases r1 with
  | tup ha r =>
    obtain ⟨w, h1, h2⟩ := r.atI h
    exact .inr (.inl ⟨_, _, i, w, rfl, rfl, sqt_unm ha, h1, k _ _ H rfl (Ext.refl H) l h2⟩)
theorem o_ixR {ns : List Int} {i : Int} {d : Int} (h : L2.atI ns i = some d) : Op2D K (rIxA K) (.scr ns) (.int i) (.int d) := fun N b H v u Q hN l r1 r2 k => by
  cases r2
  cases r1 with
  | scr ha =>
    refine .inl ⟨_, _, i, .int d, rfl, rfl, (sql_unm ha.sq), ?_, k _ _ H rfl (Ext.refl H) l (.int _)⟩
    unfold L2.atI at h ⊢
    rw [List.length_map]
    cases e : ixN ns.length i with
    | none => rw [e] at h; cases h
    | some j =>
      rw [e] at h
      show (ns.map V.int)[j]? = some (.int d)
      have h' : ns[j]? = some d := h
      rw [List.getElem?_map, h']
      rfl
end

/-! ### built-ins -/
section
variable {K : PySem.W.Frag}
def rMax2 : List V → Hp → VK → Prop := fun xs H Q => ∃ i j, xs = [.int i, .int j] ∧ Q (.int (if j > i then j else i)) H
def rMin2 : List V → Hp → VK → Prop := fun xs H Q => ∃ i j, xs = [.int i, .int j] ∧ Q (.int (if j < i then j else i)) H
theorem call_max2' {X : Cx} (hc : X.calm = true) : CallR X (.builtin "max") rMax2 := call_max2 hc
theorem call_min2' {X : Cx} (hc : X.calm = true) : CallR X (.builtin "min") rMin2 := call_min2 hc
theorem c_max {i j : Int} : ClD K rMax2 [.int i, .int j] (.int (max i j)) := fun N b H vs Q hN l r k => by
  cases r with
  | cons r1 r => cases r with | cons r2 r => cases r; cases r1; cases r2; exact ⟨i, j, rfl, k _ _ H rfl (Ext.refl H) l (by
      have e : (if j > i then j else i) = max i j := by split <;> omega
      rw [e]; exact .int _)⟩
theorem c_min {i j : Int} : ClD K rMin2 [.int i, .int j] (.int (min i j)) := fun N b H vs Q hN l r k => by
  cases r with
  | cons r1 r => cases r with | cons r2 r => cases r; cases r1; cases r2; exact ⟨i, j, rfl, k _ _ H rfl (Ext.refl H) l (by
      have e : (if j < i then j else i) = min i j := by split <;> omega
      rw [e]; exact .int _)⟩
def rLen (K : PySem.W.Frag) : List V → Hp → VK → Prop := fun xs H Q => ∃ x n, xs = [x] ∧ LenV K x H n ∧ Q (.int n) H
theorem call_len' {X : Cx} : CallR X (.builtin "len") (rLen X.K) := call_len
theorem c_lenL {xs : List D} : ClD K (rLen K) [.lst xs] (.int (xs.length : Int)) := fun N b H vs Q hN l r k => by
  cases r with
  | cons r1 r =>
    cases r
    cases r1 with
    | lst ha r => exact ⟨_, xs.length, rfl, .inl ⟨_, SqL.of (msk_of ha).2, r.length.symm⟩, k _ _ H rfl (Ext.refl H) l (.int _)⟩
theorem c_lenT {xs : List D} : ClD K (rLen K) [.tup xs] (.int (xs.length : Int)) := fun N b H vs Q hN l r k => by
  cases r with
  | cons r1 r =>
    cases r
    cases r1 with
    | tup ha r => exact ⟨_, xs.length, rfl, .inr ⟨_, sqt_unm ha, r.length.symm⟩, k _ _ H rfl (Ext.refl H) l (.int _)⟩
theorem c_lenR {ns : List Int} : ClD K (rLen K) [.scr ns] (.int (ns.length : Int)) := fun N b H vs Q hN l r k => by
  cases r with
  | cons r1 r =>
    cases r
    cases r1 with
    | scr ha => exact ⟨_, ns.length, rfl, .inl ⟨_, (sql_unm ha.sq), by rw [List.length_map]⟩, k _ _ H rfl (Ext.refl H) l (.int _)⟩
def CDivm (i j : Int) : Prop := 0 < j ∧ Builtin.divisionGoesByPylong i j = false
def rDivm : List V → Hp → VK → Prop := fun xs H Q => ∃ i j, xs = [.int i, .int j] ∧ CDivP i j ∧ ∀ p, H p = none → Q (.ref p) (upd H p (.tup [.int (i / j), .int (i % j)]))
theorem call_divm {X : Cx} : CallR X (.builtin "divmod") rDivm := call_divmodW
theorem c_divm {i j : Int} (h : 0 < j) (h9 : j < 1073741824) : ClD K rDivm [.int i, .int j] (.tup [.int (i / j), .int (i % j)]) := fun N b H vs Q hN l r k => by
  cases r with
  | cons r1 r => cases r with | cons r2 r => cases r; cases r1; cases r2; exact ⟨i, j, rfl, ⟨h, PyProof.noPylong_small (by omega)⟩, fun p hp => k _ _ _ rfl (Ext.new hp) (l.upd fun _ z => nomatch z) (new_tup hN hp (.cons (.int _) (.cons (.int _) .nil)))⟩
end
end Sh

/-! Sh7: a source of draws: three numbers in a list, told as a thing that gives any number below a bound. -/
namespace Sh
open PySem PySem.Spec PyProof.Rows L2

theorem vals3 {x y z : V} {us : List Value} (r : Vals [x, y, z] us) : Vals [x, y, z] us := r
/-- a list of three numbers seen as a source -/
theorem purse_ok {P : Program} {w : World} {H H2 : Hp} {h : Heap} {a : Addr} {x y z : Int} {n : Nat} (q : ObjOk P w H h a (.lst [.int x, .int y, .int z])) (g : PGood n x y z) : ObjOk P w H2 h a (PurseO a n) := by
  obtain ⟨_, its, m, rv, e⟩ := q
  exact ⟨⟨x, y, z, g, its, m, rv, e⟩, ⟨_, e⟩, fun h1 h2 ⟨x, y, z, g, its, m, rv, e⟩ k => ⟨x, y, z, g, its, m, rv, k _ e⟩⟩
theorem ObjOk.other {P : Program} {w : World} {H H2 : Hp} {h : Heap} {a : Addr} {o : HO} (q : ObjOk P w H h a o) (h1 : ∀ b, H b = some (.own a) → H2 b = some (.own a)) (h2 : ∀ b xs, H b = some (.tup xs) → H2 b = some (.tup xs)) : ObjOk P w H2 h a o :=
  q.stay (fun _ _ _ e => e) h1 h2
/-- a change of view at p, of things that no other leans on -/
theorem HOk.view {P : Program} {w : World} {H : Hp} {h : Heap} {p : Addr} {o o' : HO} (ok : HOk P w H h) (hp : H p = some o) (n1 : ∀ a, o ≠ .own a) (n2 : ∀ xs, o ≠ .tup xs) (new : ObjOk P w (upd H p o') h p o') : HOk P w (upd H p o') h := fun b u e => by
  by_cases hb : b = p
  · subst hb
    rw [upd_same] at e
    cases e
    exact new
  · rw [upd_ne hb] at e
    refine ObjOk.other (ok b u e) (fun c q => ?_) fun c xs q => ?_
    · have nc : c ≠ p := fun z => by
        rw [z, hp] at q
        exact n1 _ (Option.some.inj q)
      rw [upd_ne nc]
      exact q
    · have nc : c ≠ p := fun z => by
        rw [z, hp] at q
        exact n2 _ (Option.some.inj q)
      rw [upd_ne nc]
      exact q
section
variable {P : Program} {w : World} {K : PySem.W.Frag} {mg : Str → Option Value} {base : Heap} {k : Nat} {f : Addr} {fd : FuncData} {ps : List Str}
/-- purse, many: any number from 0 on below many -/
def fdDraw : Fd := { n := 2, dom := fun ds => ∃ m : Int, ds = [.purse, .int m] ∧ 0 < m ∧ m < 2 ^ 200, cost := fun _ => 1, res := fun ds d => ∃ m i : Int, ds = [.purse, .int m] ∧ d = .int i ∧ 0 ≤ i ∧ i < m }
/-- the heap without p -/
def hidp (p : Addr) (H : Hp) : Hp := fun a => if a = p then none else H a
theorem hidp_same {p : Addr} {H : Hp} : hidp p H p = none := if_pos rfl
theorem hidp_ne {p a : Addr} {H : Hp} (h : a ≠ p) : hidp p H a = H a := if_neg h
theorem hidp_of {p a : Addr} {H : Hp} {o : HO} (h : hidp p H a = some o) : a ≠ p ∧ H a = some o := by
  by_cases e : a = p
  · rw [e, hidp_same] at h; cases h
  · rw [hidp_ne e] at h; exact ⟨e, h⟩
def spDrawC : Sp := fun vs H Q _ => ∃ (p : Addr) (x y z m : Int) (n b : Nat), vs = [.ref p, .int m] ∧ 0 < m ∧ m < 2 ^ 200 ∧ H p = some (.lst [.int x, .int y, .int z]) ∧ PGood n x y z ∧ n < LIM ∧ Lim b H ∧
  ∀ (i x' y' z' : Int) (H' : Hp), 0 ≤ i → i < m → PGood (n + 1) x' y' z' → Ext (hidp p H) H' → Lim b H' → H' p = some (.lst [.int x', .int y', .int z']) → Q (.int i) H'
theorem draw_view (F : FnOk P w K mg base (L2.CX P w) k f fd ps spDrawC) (hps : ps.length = 2) : FnOk P w K mg base (L2.CX P w) k f fd ps (SpD K fdDraw) := by
  refine ⟨SpD.len (F := fdDraw) hps, fun A outer s H args us vs Q E hr e0 hb r hsp => ?_⟩
  obtain ⟨ds, N, b, a1, ⟨n0, a2, a3⟩, a4, _, ⟨m, rfl, hm0, hm1⟩, a6, _⟩ := hsp
  cases a4 with
  | cons r1 a4 =>
    cases a4 with
    | cons r2 a4 =>
      cases a4
      cases r2
      cases r1 with
      | @purse p n hp0 =>
        have hp1 := (msk_of hp0).2
        have hN := (msk_of hp0).1
        obtain ⟨c, hc, ec⟩ := a2 p _ hp1
        have hp : H p = some (PurseO p c) := by rw [← ec]; exact hp1
        obtain ⟨⟨x, y, z, g, its, k', rv, eh⟩, _, _⟩ := e0.hok p _ hp
        have okH : HOk P w (upd H p (.lst [.int x, .int y, .int z])) s.heap := HOk.view e0.hok hp (fun _ q => nomatch q) (fun _ q => nomatch q) ⟨by show 3 ≤ sizeLine; decide, its, k', rv, eh⟩
        have nz : ∀ b, H b = none → (upd H p (.lst [.int x, .int y, .int z])) b = none := fun b h => by
          rw [upd_ne (fun q => by rw [q, hp] at h; cases h)]
          exact h
        have e1 : Env0 P w K mg base A outer s (upd H p (.lst [.int x, .int y, .int z])) := ⟨e0.frames, e0.mod, fun b o q => ⟨(e0.bs b o q).1, nz b (e0.bs b o q).2⟩, e0.bsz, e0.funs, fun b q => nz b (e0.frf b q), okH, e0.bare⟩
        have hc1 : c + 1 + b ≤ LIM := by
          have h3 : n0 + (1 + b) ≤ LIM := a3
          omega
        have limL : Lim (1 + b) (upd H p (.lst [.int x, .int y, .int z])) := ⟨n0, fun a φ ha => by
          by_cases na : a = p
          · rw [na, upd_same] at ha; exact nomatch ha
          · rw [upd_ne na] at ha; exact a2 a φ ha, a3⟩
        have hidu : hidp p (upd H p (.lst [.int x, .int y, .int z])) = hidp p H := by
          funext a
          by_cases na : a = p
          · rw [na, hidp_same, hidp_same]
          · rw [hidp_ne na, hidp_ne na, upd_ne na]
        refine codeAny_mono (F.run A outer s _ args us [.ref p, .int m] (fun v H' => ∃ (i x' y' z' : Int), v = .int i ∧ 0 ≤ i ∧ i < m ∧ PGood (c + 1) x' y' z' ∧ Ext (hidp p H) H' ∧ Lim (1 + b) H' ∧ H' p = some (.lst [.int x', .int y', .int z'])) (fun _ _ _ => False) hr e1 hb r
          ⟨p, x, y, z, m, c, 1 + b, rfl, hm0, hm1, upd_same, g, by omega, limL, fun i x' y' z' H' h1 h2 h3 h4 h5 h6 => ⟨i, x', y', z', rfl, h1, h2, h3, by rw [← hidu]; exact h4, h5, h6⟩⟩) fun res s' hq => ?_
        cases res with
        | error e =>
          obtain ⟨a, B, H', cls, d, q1, q2, q3, q4, q5, q6, q7, q8⟩ := hq
          exact q8.elim
        | ok fl =>
          cases fl with
          | next => exact False.elim hq
          | brk => exact False.elim hq
          | cont => exact False.elim hq
          | ret u =>
            obtain ⟨v, H', os, bare, un, hok, rel, i, x', y', z', rfl, i0, i1, g', ex, ⟨n1, l1, l2⟩, hp'⟩ := hq
            have np : ∀ b, H b = none → b ≠ p := fun b h q => by rw [q, hp] at h; cases h
            have ext : Ext H (upd H' p (PurseO p (c + 1))) := ⟨⟨fun a o ha no => by
                have na : a ≠ p := fun q => by rw [q, hp] at ha; exact no _ (Option.some.inj ha).symm
                rw [upd_ne na]
                exact ex.keep a o (by rw [hidp_ne na]; exact ha) no, fun a j ha => by
                by_cases na : a = p
                · exact ⟨c + 1, by rw [na]; exact upd_same⟩
                · obtain ⟨j', hj⟩ := ex.pz a j (by rw [hidp_ne na]; exact ha)
                  exact ⟨j', by rw [upd_ne na]; exact hj⟩⟩, fun a ha => by
                by_cases na : a = p
                · rw [na, upd_same]; exact fun q => nomatch q
                · rw [upd_ne na]; exact ex.dom a (by rw [hidp_ne na]; exact ha)⟩
            have lim : Lim b (upd H' p (PurseO p (c + 1))) := ⟨max n1 (c + 1), fun a φ ha => by
                by_cases na : a = p
                · rw [na, upd_same] at ha
                  exact ⟨c + 1, Nat.le_max_right _ _, by rw [na]; exact (Option.some.inj ha).symm⟩
                · rw [upd_ne na] at ha
                  obtain ⟨j, h1, h2⟩ := l1 a φ ha
                  exact ⟨j, Nat.le_trans h1 (Nat.le_max_left _ _), h2⟩, by
                have h3 : n1 + (1 + b) ≤ LIM := l2
                omega⟩
            refine ⟨.int i, upd H' p (PurseO p (c + 1)), os, bare, ⟨fun b o q n hb hx => un.keep b o q (nz b n) hb hx, fun b o q n hb hx => un.slot b o q (nz b n) hb hx, fun b o q n hx => ?_, un.there, fun b xs q => ?_, fun b o xs q => ?_, fun b ps q => ?_⟩, ?_, rel, a6 _ _ _ ⟨m, i, rfl, rfl, i0, i1⟩ ext lim (.int i) (fun z => nomatch z)⟩
            · rw [upd_ne (np b n)]
              exact un.free b o q (nz b n) hx
            · have nb : b ≠ p := fun e => by rw [e, hp] at q; exact nomatch q
              rw [upd_ne nb]
              exact un.tups b xs (by rw [upd_ne nb]; exact q)
            · have nb : b ≠ p := fun e => by rw [e, hp] at q; exact nomatch q
              rw [upd_ne nb]
              exact un.frzs b o xs (by rw [upd_ne nb]; exact q)
            · have nb : b ≠ p := fun e => by rw [e, hp] at q; exact nomatch q
              obtain ⟨more, h⟩ := un.tbls b ps (by rw [upd_ne nb]; exact q)
              exact ⟨more, by rw [upd_ne nb]; exact h⟩
            · exact HOk.view hok hp' (fun _ q => nomatch q) (fun _ q => nomatch q) (purse_ok (hok p _ hp') g')
/-- the body of a def that draws -/
abbrev gDraw (K : PySem.W.Frag) (p : Addr) (H : Hp) (E : XK) : Gx := ⟨K, hidp p H, fun _ => False, WD E, fun _ _ _ _ => False, false⟩
abbrev eDraw (p : Addr) (m : Int) (n b : Nat) : DE := { nx := fun _ _ => False, rt := fun d ds b' => b ≤ b' ∧ ∃ i x' y' z' : Int, d = .int i ∧ 0 ≤ i ∧ i < m ∧ ds[0]? = some (.par p [.int x', .int y', .int z']) ∧ PGood (n + 1) x' y' z' }
theorem draw_fn {x qual : Str} {st : Stmt} {N : List Str} (U : Fun K x qual st f fd) (S : FnScope N ps (defScope st)) (hps : ps.length = 2)
    (hbody : ∀ (cdv : Value) (A : Around) (outer : List Env) (s : Shared) (H : Hp) (E : XK), Room k (A.deeper (envOfC qual (defScope st) s.heap.objs.size f cdv)) → Takes (cxOf (L2.CX P w) P w K mg base N qual (defScope st) f cdv A outer s H E) (WD E) →
      ∃ t, PSs (cxOf (L2.CX P w) P w K mg base N qual (defScope st) f cdv A outer s H E) (defBody st) t ∧
        ∀ (p : Addr) (x y z m : Int) (n b : Nat), 0 < m → m < 2 ^ 200 → PGood n x y z → n < LIM → Wt (gDraw K p H E) b t (.par p [.int x, .int y, .int z] :: .dat (.int m) :: List.replicate (N.length - 2) .un) (eDraw p m n b)) :
    FnOk P w K mg base (L2.CX P w) (k + 1) f fd ps (SpD K fdDraw) := by
  refine draw_view ?_ hps
  obtain ⟨oc, od, kV, doc, pm, an, cdv, ct, osl, rfl, lk, hcd⟩ := U.ex
  refine fn_of lk hcd S (fun vs H Q E ⟨p, x, y, z, m, n, b, e, _⟩ => by rw [e, hps]; rfl) fun A outer s H vs Q E hr hsp => ?_
  obtain ⟨t, h1, h2⟩ := hbody cdv A outer s H E hr (takes_of (E := E) rfl rfl rfl rfl)
  obtain ⟨p, x, y, z, m, n, b, rfl, hm0, hm1, hp, g, hn, hl, k⟩ := hsp
  refine ⟨t, h1, h2 p x y z m n b hm0 hm1 g hn [] (fun a => a = p) H _ ?_ _ ⟨fun _ _ _ _ _ _ e => e.elim, fun M b' H' σ' ds' v d S' e rp _ => ?_, fun _ _ _ _ _ _ e => e.elim, fun _ _ _ _ _ _ e => e.elim⟩⟩
  · have sl0 : SlOk K (fun a => a = p) H (some (.ref p)) (.par p [.int x, .int y, .int z]) := ⟨_, rfl, rfl, hp, .cons (.int x) (.cons (.int y) (.cons (.int z) .nil))⟩
    have look : ∀ (i : Nat) (s : Option V) (d : Sd), (L2.start N [.ref p, .int m])[i]? = some s → (Sd.par p [.int x, .int y, .int z] :: .dat (.int m) :: List.replicate (N.length - 2) .un)[i]? = some d → (i = 0 ∧ s = some (.ref p) ∧ d = .par p [.int x, .int y, .int z]) ∨ (i = 1 ∧ s = some (.int m) ∧ d = .dat (.int m)) ∨ d = .un := fun i s d e1 e2 => by
      match i, e1, e2 with
      | 0, e1, e2 => cases e1; cases e2; exact .inl ⟨rfl, rfl, rfl⟩
      | 1, e1, e2 => cases e1; cases e2; exact .inr (.inl ⟨rfl, rfl, rfl⟩)
      | i + 2, e1, e2 => exact .inr (.inr (List.mem_replicate.mp (List.mem_of_getElem? (show (List.replicate (N.length - 2) Sd.un)[i]? = some d from e2))).2)
    refine ⟨⟨⟨fun a o h _ => (hidp_of h).2, fun a j h => ⟨j, (hidp_of h).2⟩⟩, fun a h q => ?_⟩, fun a h => h.elim, fun a h _ => by show hidp p H a = none; rw [h]; exact hidp_same, fun a h => by rw [h, hp]; exact (fun q => nomatch q), hl, ?_, fun i s d e1 e2 => ?_, fun i j a ⟨s1, d, q1, q3, q5⟩ ⟨s2, e, q2, q4, q6⟩ => ?_, fun i a _ => fun z => z, fun q hq => by cases hq⟩
    · by_cases na : a = p
      · rw [na] at h; exact h hidp_same
      · exact h (by show hidp p H a = none; rw [hidp_ne na]; exact q)
    · show (([V.ref p, V.int m].map some) ++ List.replicate (N.length - 2) none).length = _
      simp
    · rcases look i s d e1 e2 with ⟨_, rfl, rfl⟩ | ⟨_, rfl, rfl⟩ | rfl
      · exact sl0
      · exact ⟨_, rfl, .int m⟩
      · trivial
    · rcases look i _ d q1 q3 with ⟨e1, _, _⟩ | ⟨_, _, e1⟩ | e1
      · rcases look j _ e q2 q4 with ⟨e2, _, _⟩ | ⟨_, _, e2⟩ | e2
        · rw [e1, e2]
        · rw [e2] at q6; cases q6
        · rw [e2] at q6; cases q6
      · rw [e1] at q5; cases q5
      · rw [e1] at q5; cases q5
  · obtain ⟨hb', i, x', y', z', rfl, i0, i1, h0, g'⟩ := e
    obtain ⟨vs, q1, q2, q3, q4, _⟩ := S'.parL h0
    cases q4 with
    | cons r1 q4 => cases q4 with | cons r2 q4 => cases q4 with | cons r3 q4 =>
      cases q4
      cases r1
      cases r2
      cases r3
      cases rp
      exact k i x' y' z' H' i0 i1 g' S'.ext (S'.lim.mono hb') q3
def QMake (H : Hp) (Q : VK) : VK := fun v H' => ∃ (q : Addr) (x y z : Int) (n : Nat), v = .ref q ∧ H q = none ∧ PGood n x y z ∧ H' q = some (.lst [.int x, .int y, .int z]) ∧ Q v (upd H' q (PurseO q n))
/-- a new source; H' behind it -/
theorem ce_make {outer : List Env} {H : Hp} {s s' : Shared} {u : Value} {Q : VK} (h : CE outer P w H s (QMake H Q) u s') : CE outer P w H s Q u s' := by
  obtain ⟨v, H', os, bare, un, hok, rel, q, x, y, z, n, rfl, hq0, g, hq, h2⟩ := h
  refine ⟨.ref q, _, os, bare, ⟨un.keep, un.slot, fun b o e hb hx => ?_, un.there, fun b xs e => ?_, fun b o xs e => ?_, fun b ps e => ?_⟩, HOk.view hok hq (fun _ q => nomatch q) (fun _ q => nomatch q) (purse_ok (hok q _ hq) g), rel, h2⟩
  · have h3 := un.free b o e hb hx
    rw [upd_ne (fun z => by rw [z, hq] at h3; cases h3)]
    exact h3
  · have h3 := un.tups b xs e
    rw [upd_ne (fun z => by rw [z, hq] at h3; cases h3)]
    exact h3
  · have h3 := un.frzs b o xs e
    rw [upd_ne (fun z => by rw [z, hq] at h3; cases h3)]
    exact h3
  · obtain ⟨more, h3⟩ := un.tbls b ps e
    exact ⟨more, by rw [upd_ne (fun z => by rw [z, hq] at h3; cases h3)]; exact h3⟩
/-- a def that makes a source of the script's cell k -/
def fdMake : Fd := { n := 2, dom := fun ds => ∃ (ns : List Int) (k : Int), ds = [.scr ns, .int k] ∧ 0 ≤ k ∧ k < 1000, res := fun _ d => d = .purse }
def spMakeC (K : PySem.W.Frag) : Sp := fun vs H Q _ => ∃ (a : Addr) (ns : List Int) (k : Int), vs = [.ref a, .int k] ∧ 0 ≤ k ∧ k < 1000 ∧ ScrL K H a (ns.map V.int) ∧ (∀ o, K.lookup a = some o → H a = none) ∧
  ∃ b, Lim b H ∧ ∀ (q : Addr) (x y : Int) (H' : Hp), H q = none → PGood 0 x y 0 → Ext H H' → Lim b H' → H' q = some (.lst [.int x, .int y, .int 0]) → Q (.ref q) H'
/-- .. of a number and a place -/
def fdMakeI : Fd := { n := 2, dom := fun ds => ∃ (c k : Int), ds = [.int c, .int k] ∧ 0 ≤ k ∧ k < 1000, res := fun _ d => d = .purse }
def spMakeI : Sp := fun vs H Q _ => ∃ (c k : Int), vs = [.int c, .int k] ∧ 0 ≤ k ∧ k < 1000 ∧
  ∃ b, Lim b H ∧ ∀ (q : Addr) (x y : Int) (H' : Hp), H q = none → PGood 0 x y 0 → Ext H H' → Lim b H' → H' q = some (.lst [.int x, .int y, .int 0]) → Q (.ref q) H'
theorem make_end {H H' : Hp} {N : Addr → Prop} {b : Nat} {q : Addr} {x y : Int} {Q : VK} (hN : ∀ a, N a → H a ≠ none) (l : Lim b H') (hq : H q = none) (g : PGood 0 x y 0) (e : Ext H H') (h' : H' q = some (.lst [.int x, .int y, .int 0]))
    (k : ∀ v d H', d = D.purse → Ext H H' → Lim b H' → Rp K (msk N H') v d → Q v H') : QMake H Q (.ref q) H' := by
  refine ⟨q, x, y, 0, 0, rfl, hq, g, h', ?_⟩
  obtain ⟨n0, p1, p2⟩ := l
  refine k _ _ _ rfl (e.mut hq) ⟨n0, fun a φ ha => ?_, p2⟩ (.purse (n := 0) (by rw [msk_no fun z => hN q z hq]; exact upd_same))
  by_cases na : a = q
  · rw [na, upd_same] at ha
    exact ⟨0, Nat.zero_le _, by rw [na]; exact (Option.some.inj ha).symm⟩
  · rw [upd_ne na] at ha
    exact p1 a φ ha
theorem make_view (F : FnOk P w K mg base (L2.CX P w) k f fd ps (spMakeC K)) (hps : ps.length = 2) : FnOk P w K mg base (L2.CX P w) k f fd ps (SpD K fdMake) := by
  refine ⟨SpD.len (F := fdMake) hps, fun A outer s H args us vs Q E hr e0 hb r hsp => ?_⟩
  obtain ⟨ds, N, b, a1, a2, a4, _, ⟨ns, c, rfl, h0, h1⟩, a6, _⟩ := hsp
  cases a4 with
  | cons r1 a4 =>
    cases a4 with
    | cons r2 a4 =>
      cases a4
      cases r2
      cases r1 with
      | scr hs =>
        have a2' : Lim b H := a2.mono (Nat.le_add_left _ _)
        refine codeAny_mono (F.run A outer s H args us _ (QMake H Q) (fun _ _ _ => False) hr e0 hb r ⟨_, ns, c, rfl, h0, h1, msk_all.scr hs, fun o ho => (e0.bs _ _ (e0.mod.kin _ _ ho)).2, b, a2', fun q x y H' hq g e l h' => make_end a1 l hq g e h' fun v d H' e x l rp => a6 v d H' e x l rp (fun z => nomatch z)⟩) fun res s' hq => ?_
        cases res with
        | error e =>
          obtain ⟨a, B, H', cls, d, q1, q2, q3, q4, q5, q6, q7, q8⟩ := hq
          exact q8.elim
        | ok fl =>
          cases fl with
          | next => exact False.elim hq
          | brk => exact False.elim hq
          | cont => exact False.elim hq
          | ret u => exact ce_make hq
theorem makeI_view (F : FnOk P w K mg base (L2.CX P w) k f fd ps spMakeI) (hps : ps.length = 2) : FnOk P w K mg base (L2.CX P w) k f fd ps (SpD K fdMakeI) := by
  refine ⟨SpD.len (F := fdMakeI) hps, fun A outer s H args us vs Q E hr e0 hb r hsp => ?_⟩
  obtain ⟨ds, N, b, a1, a2, a4, _, ⟨n, c, rfl, h0, h1⟩, a6, _⟩ := hsp
  cases a4 with
  | cons r1 a4 =>
    cases a4 with
    | cons r2 a4 =>
      cases a4
      cases r2
      cases r1
      have a2' : Lim b H := a2.mono (Nat.le_add_left _ _)
      refine codeAny_mono (F.run A outer s H args us _ (QMake H Q) (fun _ _ _ => False) hr e0 hb r ⟨n, c, rfl, h0, h1, b, a2', fun q x y H' hq g e l h' => make_end a1 l hq g e h' fun v d H' e x l rp => a6 v d H' e x l rp (fun z => nomatch z)⟩) fun res s' hq => ?_
      cases res with
      | error e =>
        obtain ⟨a, B, H', cls, d, q1, q2, q3, q4, q5, q6, q7, q8⟩ := hq
        exact q8.elim
      | ok fl =>
        cases fl with
        | next => exact False.elim hq
        | brk => exact False.elim hq
        | cont => exact False.elim hq
        | ret u => exact ce_make hq
/-- the body of a def that makes a source -/
abbrev gMake (K : PySem.W.Frag) (H : Hp) (M0 : Addr → Prop) (E : XK) : Gx := ⟨K, H, M0, WD E, fun _ _ _ _ => False, false⟩
abbrev eMake (b : Nat) : DE := { nx := fun _ _ => False, rt := fun d _ b' => b ≤ b' ∧ ∃ x y : Int, d = .lst [.int x, .int y, .int 0] ∧ PGood 0 x y 0 }
theorem make_fn {x qual : Str} {st : Stmt} {N : List Str} (U : Fun K x qual st f fd) (S : FnScope N ps (defScope st)) (hps : ps.length = 2)
    (hbody : ∀ (cdv : Value) (A : Around) (outer : List Env) (s : Shared) (H : Hp) (E : XK), Room k (A.deeper (envOfC qual (defScope st) s.heap.objs.size f cdv)) → Takes (cxOf (L2.CX P w) P w K mg base N qual (defScope st) f cdv A outer s H E) (WD E) →
      ∃ t, PSs (cxOf (L2.CX P w) P w K mg base N qual (defScope st) f cdv A outer s H E) (defBody st) t ∧
        ∀ (M0 : Addr → Prop) (ns : List Int) (c : Int) (b : Nat), 0 ≤ c → c < 1000 → Wt (gMake K H M0 E) b t (slots N.length [.scr ns, .int c]) (eMake b)) :
    FnOk P w K mg base (L2.CX P w) (k + 1) f fd ps (SpD K fdMake) := by
  refine make_view ?_ hps
  obtain ⟨oc, od, kV, doc, pm, an, cdv, ct, osl, rfl, lk, hcd⟩ := U.ex
  refine fn_of lk hcd S (fun vs H Q E ⟨a, ns, c, e, _⟩ => by rw [e, hps]; rfl) fun A outer s H vs Q E hr hsp => ?_
  obtain ⟨t, h1, h2⟩ := hbody cdv A outer s H E hr (takes_of (E := E) rfl rfl rfl rfl)
  obtain ⟨a, ns, c, rfl, c0, c1, hs, hno, b, hl, k⟩ := hsp
  have hm : Rp K (msk (fun q => H q ≠ none ∧ q ≠ a) H) (.ref a) (.scr ns) := .scr (by
    rcases hs with ⟨o, h⟩ | h
    · exact .inl ⟨o, by rw [msk_no fun z => z.2 rfl]; exact h⟩
    · exact .inr h)
  refine ⟨t, h1, h2 (fun q => H q ≠ none ∧ q ≠ a) ns c b c0 c1 [] _ H _ (start_stt (fun q h => h.1) hl (.cons hm (.cons (.int c) .nil))) _ ⟨fun _ _ _ _ _ _ e => e.elim, fun M b' H' σ' ds' v d S' e rp _ => ?_, fun _ _ _ _ _ _ e => e.elim, fun _ _ _ _ _ _ e => e.elim⟩⟩
  obtain ⟨hb', x, y, rfl, g⟩ := e
  cases rp with
  | @lst q vs _ ha r =>
    cases r with
    | cons r1 r => cases r with | cons r2 r => cases r with | cons r3 r =>
      cases r
      cases r1
      cases r2
      cases r3
      obtain ⟨m1, m2⟩ := msk_of ha
      have hq : H q = none := by
        cases e : H q with
        | none => rfl
        | some o =>
          have eq : q = a := Classical.byContradiction fun z => m1 ⟨by show H q ≠ none; rw [e]; exact (fun z => nomatch z), z⟩
          rcases hs with ⟨o', h⟩ | h
          · rw [← eq] at h
            have h3 := S'.ext.keep _ _ h (fun _ z => nomatch z)
            rw [m2] at h3
            exact nomatch h3
          · rw [eq] at e m2
            obtain ⟨o1, its, n, lk1, _⟩ := h
            rw [hno o1 lk1] at e
            cases e
      exact k q x y H' hq g S'.ext (S'.lim.mono hb') m2
end
end Sh

/-! Sh8: the rules in the form in which gen.py prints them: K a letter. -/
namespace Sh
open PySem PySem.Spec PyProof.Rows L2
section
variable {X : Cx} {K : PySem.W.Frag}
theorem g_add (hK : X.K = K) : OpR X (binaryOp .Add) (rAddA K) := by subst hK; exact op_addA
theorem g_sub : OpR X (binaryOp .Sub) rSubA := op_subA
theorem g_mul : OpR X (binaryOp .Mult) rMulA := op_mulA
theorem g_div : OpR X (binaryOp .FloorDiv) rDivA := op_divA
theorem g_mod : OpR X (binaryOp .Mod) rModA := op_modA
theorem g_pow : OpR X (binaryOp .Pow) rPowA := op_powA
theorem g_lt : OpR X (compareOp .Lt) rLt := op_ltA
theorem g_le : OpR X (compareOp .LtE) rLe := op_leA
theorem g_gt : OpR X (compareOp .Gt) rGt := op_gtA
theorem g_ge : OpR X (compareOp .GtE) rGe := op_geA
theorem g_eq (hK : X.K = K) {k : Nat} (hr : Room k X.A) : OpR X (compareOp .Eq) (rEqD K) := by subst hK; exact op_eqA hr.units
theorem g_ne (hK : X.K = K) {k : Nat} (hr : Room k X.A) : OpR X (compareOp .NotEq) (rNeD K) := by subst hK; exact op_neA hr.units
theorem g_neg : UnR X (unaryOp .USub) (rU fun i => V.int (-i)) := un_neg
def rIsN : R2 := fun x y H Q => y = .non ∧ Q (.bl (decide (x = .non))) H
def rNotN : R2 := fun x y H Q => y = .non ∧ Q (.bl (!decide (x = .non))) H
theorem g_is : OpR X (compareOp .Is) rIsN := op_isN
theorem g_isnot : OpR X (compareOp .IsNot) rNotN := op_notN
theorem g_ix (hK : X.K = K) {k : Nat} (hr : Room k X.A) : IxR X (rIxA K) := by subst hK; exact ix_any (hu_of hr)
theorem g_len (hK : X.K = K) : CallR X (.builtin "len") (rLen K) := by subst hK; exact call_len'
theorem g_max (hc : X.calm = true) : CallR X (.builtin "max") rMax2 := call_max2' hc
theorem g_min (hc : X.calm = true) : CallR X (.builtin "min") rMin2 := call_min2' hc
theorem g_divmod : CallR X (.builtin "divmod") rDivm := call_divm
theorem boot_divm : bootBuiltins "divmod" = some (.builtin "divmod") := by decide +kernel
theorem g_list (hK : X.K = K) {tg l : Expr} {tl : TE} (hl : PE X l tl) : PI X tg l (iList K tl) := by subst hK; exact pi_list hl
theorem g_tuple (hK : X.K = K) {tg l : Expr} {tl : TE} (hl : PE X l tl) : PI X tg l (iTup K tl) := by subst hK; exact pi_tup hl
theorem g_enum (hK : X.K = K) {e : Expr} {ta : TA} {p pos tpos : Pos} {elts : List Expr} {kk : Nat} (hg : Gl X "enumerate") (hm : X.mg "enumerate" = none) (ha : PA X [e] ta) (hs : starEach [e] X.env = [(false, eval e X.env)] := by rfl) :
    PI X (.Tuple elts kk tpos) (.Call (.Name "enumerate" p) [e] [] pos) (iEnum K ta) := by subst hK; exact pi_enum hg hm ha hs
theorem g_zip (hK : X.K = K) {e e2 : Expr} {ta : TA} {p pos tpos : Pos} {elts : List Expr} {kk : Nat} (hg : Gl X "zip") (hm : X.mg "zip" = none) (ha : PA X [e, e2] ta)
    (hs : starEach [e, e2] X.env = (false, eval e X.env) :: starEach [e2] X.env := by rfl) (hpl : (backTo pos (starEach [e2] X.env)).any (·.1) = false := by rfl) :
    PI X (.Tuple elts kk tpos) (.Call (.Name "zip" p) [e, e2] [] pos) (RZ.iZipA K ta) := by subst hK; exact RZ.pi_zipA hg hm ha hs hpl
theorem g_tup (hK : X.K = K) {es : List Expr} {k : Nat} {t : TGs} {n : Nat} {pos : Pos} (hc : X.calm = true) (h : PGs X es t)
    (hn : (assignEach es X.env).length = n := by rfl) (hst : (assignEach es X.env).findIdx? (·.1) = none := by rfl) : PG X (.Tuple es k pos) (gTup K n t) := by subst hK; exact pg_tup hc h hn hst
def tTru (K : PySem.W.Frag) (ta : TE) : TT := fun σ H Q => ta σ H fun x H' => ∃ k, TruV K x H' k ∧ Q k H'
theorem g_tru (hK : X.K = K) {a : Expr} {ta : TE} (ha : PE X a ta) (he : ∀ whole, isTrue a X.env whole = (do let v ← whole; standAt a.pos; holding [v] (truthy v))) : PT X a (tTru K ta) := by subst hK; exact pt_truth ha he
theorem g_app (hK : X.K = K) {o e : Expr} {es : List Expr} {to : TE} {t : TA} {apos pos : Pos} (h : PE X (.Call (.Attribute o "append" apos) [e] [] pos) (tBM X.K "list" rAppend to t)) : PE X (.Call (.Attribute o "append" apos) [e] [] pos) (tBM K "list" rAppend to t) := by subst hK; exact h
end
/-! what they ask, by data -/
section
variable {G : Gx} {p : Bool} {b b' : Nat} {te : TE} {ds : List Sd}
/-- the truth of a value -/
def D.tru : D → Option Bool
  | .non => some false
  | .bl b => some b
  | .int i => some (i != 0)
  | .lst xs => some (!xs.isEmpty)
  | .tup xs => some (!xs.isEmpty)
  | .dct kvs => some (!kvs.isEmpty)
  | _ => none
theorem RpK.length {K : PySem.W.Frag} {H : Hp} : ∀ {vs : List (Key × V)} {ds : List (Key × D)}, RpK K H vs ds → vs.length = ds.length
  | _, _, .nil => rfl
  | _, _, .cons _ q => congrArg (· + 1) (RpK.length q)
theorem isEmpty_len {α β : Type} {xs : List α} {ys : List β} (h : xs.length = ys.length) : xs.isEmpty = ys.isEmpty := by
  cases xs <;> cases ys <;> first | rfl | cases h
theorem Rp.truV {K : PySem.W.Frag} {H : Hp} {v : V} {d : D} {c : Bool} (r : Rp K H v d) (h : d.tru = some c) : TruV K v H c := by
  cases r with
  | non => cases h; rfl
  | bl b => cases h; rfl
  | int i => cases h; rfl
  | lst ha r => cases h; exact .inl ⟨_, SqL.of ha, by rw [isEmpty_len r.length]⟩
  | tup ha r => cases h; exact .inr (.inl ⟨_, ha, by rw [isEmpty_len r.length]⟩)
  | dct ha r => cases h; exact .inr (.inr ⟨_, ha, by rw [isEmpty_len r.length]⟩)
  | _ => cases h
theorem et_tru {d : D} {c : Bool} (h : EvD G false b b' te ds d) (hc : d.tru = some c) : EtD G b b' (tTru G.K te) ds c := fun gs M H σ S Q k => h gs M H σ S _ fun v d' H' r e l rp => by
  subst r
  exact ⟨c, (rp.mono msk_all).truV hc, k c H' rfl e l⟩
theorem o_isN {K : PySem.W.Frag} {x : D} (h : x ≠ .non) : Op2D K rIsN x .non (.bl false) := fun N b H v u Q hN l r1 r2 k => by
  cases r2
  refine ⟨rfl, ?_⟩
  have e : decide (v = V.non) = false := decide_eq_false fun z => by
    subst z
    cases r1
    exact h rfl
  rw [e]
  exact k _ _ H rfl (Ext.refl H) l (.bl _)
theorem o_isN1 {K : PySem.W.Frag} : Op2D K rIsN .non .non (.bl true) := fun N b H v u Q hN l r1 r2 k => by
  cases r2
  cases r1
  exact ⟨rfl, k _ _ H rfl (Ext.refl H) l (.bl _)⟩
theorem o_notN {K : PySem.W.Frag} {x : D} (h : x ≠ .non) : Op2D K rNotN x .non (.bl true) := fun N b H v u Q hN l r1 r2 k => by
  cases r2
  refine ⟨rfl, ?_⟩
  have e : decide (v = V.non) = false := decide_eq_false fun z => by
    subst z
    cases r1
    exact h rfl
  rw [e]
  exact k _ _ H rfl (Ext.refl H) l (.bl _)
theorem o_notN1 {K : PySem.W.Frag} : Op2D K rNotN .non .non (.bl false) := fun N b H v u Q hN l r1 r2 k => by
  cases r2
  cases r1
  exact ⟨rfl, k _ _ H rfl (Ext.refl H) l (.bl _)⟩
end
end Sh

/-! Sh9: short words. -/
namespace Sh
open PySem PySem.Spec PyProof.Rows L2
theorem EvD.flatT {G : Gx} {b b' : Nat} {te : TE} {ds : List Sd} {d : D} (h : EvD G false b b' te ds d) (f : flatD d = true) : EvD G true b b' te ds d := EvD.flat h f
abbrev allV : List Nat := [0,1,2,3,4,5,6,7,8,9,10,11,12,13,14,15,16,17,18,19,20,21,22,23,24,25,26,27,28,29,30,31,32,33,34,35,36,37,38,39]
theorem w_tg {G : Gx} {b b' : Nat} {te : TE} {g : TG} {ds ds' : List Sd} {d : D} {E : DE} (h : EvD G true b b' te ds d) (t : TgR G.K allV g d ds ds') (k : E.nx ds' b') : Wt G b (tAsg te g) ds E := w_tgt h t k
theorem ws_tg {G : Gx} {b b' : Nat} {te : TE} {g : TG} {ds : List Sd} {R : D → Prop} {E : DE} (h : EvS G true b b' te ds R) (k : ∀ d, R d → ∃ ds', TgR G.K allV g d ds ds' ∧ E.nx ds' b') : Wt G b (tAsg te g) ds E := ws_tgt h k
theorem Op2D.as {K : PySem.W.Frag} {r : R2} {x y z z' : D} (h : Op2D K r x y z') (e : z' = z) : Op2D K r x y z := by rw [← e]; exact h
theorem ClD.as {K : PySem.W.Frag} {r : List V → Hp → VK → Prop} {xs : List D} {z z' : D} (h : ClD K r xs z') (e : z' = z) : ClD K r xs z := by rw [← e]; exact h
theorem Op2.to {K : PySem.W.Frag} {r : R2} {x y z : D} {R : D → Prop} (h : Op2D K r x y z) (i : R z) : Op2 K r x y R := fun N b H v u Q hN l r1 r2 k => h N b H v u Q hN l r1 r2 fun z' d H' e x l rp => k z' d H' (by rw [e]; exact i) x l rp
theorem Op2.id {K : PySem.W.Frag} {r : R2} {x y : D} {R : D → Prop} (h : Op2 K r x y R) : Op2 K r x y R := h
theorem ClA.id {K : PySem.W.Frag} {r : List V → Hp → VK → Prop} {xs : List D} {R : D → Prop} (h : ClA K r xs R) : ClA K r xs R := h
/-! ### powers of small numbers -/
theorem cpow_small {i j : Int} (a : Nat) (h : i.natAbs < 2 ^ a) (h0 : 0 < a) (hj : 0 ≤ j ∧ (a : Int) * j ≤ 2 ^ 27) : CPowW i j := by
  refine ⟨hj.1, ?_⟩
  have hb : Builtin.Int.intBits i ≤ a := by
    unfold Builtin.Int.intBits
    split
    · omega
    · have q := PySem.Flt.log2_lt_of h0 h
      omega
  have h1 : (Builtin.Int.intBits i : Int) * j ≤ (a : Int) * j := Int.mul_le_mul_of_nonneg_right (by omega) hj.1
  omega
/-! ### calls whose one answer is known -/
structure Cal (F : Fd) (es : List D) (z : D) : Prop where
  n : es.length = F.n
  dom : F.dom es
  cost : F.cost es = 0
  res : ∀ d, F.res es d → d = z
  exn : ∀ C x, ¬ F.exn es C x
theorem ev_cal {G : Gx} {p : Bool} {b b1 : Nat} {t : TA} {ds : List Sd} {F : Fd} {n : Nat} {E : L2.St → XK} {es : List D} {z : D} (ha : EaD G p b b1 t ds es) (h : Cal F es z) (hn : es.length = n) :
    EvD G p b b1 (tCl n 0 (SpD G.K F) (fun vs _ => vs) E t tNil) ds z :=
  (evs_cl (F := F) (gD := fun es _ => es) (fs := []) ha ea_nil (fun _ _ _ _ _ r _ => r) rfl fun es' e => by
    subst e
    exact ⟨hn, h.n, h.dom, by rw [h.cost, Nat.zero_add]; exact Nat.le_refl _, fun C x q => absurd q (h.exn C x)⟩).imp fun d ⟨es', e, q⟩ => by
    subst e
    exact h.res d q
/-- .. any of several answers -/
structure Cas (F : Fd) (es : List D) (c : Nat) (R : D → Prop) : Prop where
  n : es.length = F.n
  dom : F.dom es
  cost : F.cost es ≤ c
  res : ∀ d, F.res es d → R d
  exn : ∀ C x, ¬ F.exn es C x
theorem evs_cal {G : Gx} {p : Bool} {b b1 b' c : Nat} {t : TA} {ds : List Sd} {F : Fd} {n : Nat} {E : L2.St → XK} {es : List D} {R : D → Prop} (ha : EaD G p b b1 t ds es) (h : Cas F es c R) (hn : es.length = n) (hb : c + b' ≤ b1) :
    EvS G p b b' (tCl n 0 (SpD G.K F) (fun vs _ => vs) E t tNil) ds R :=
  (evs_cl (F := F) (gD := fun es _ => es) (fs := []) ha ea_nil (fun _ _ _ _ _ r _ => r) rfl fun es' e => by
    subst e
    exact ⟨hn, h.n, h.dom, Nat.le_trans (Nat.add_le_add_right h.cost _) hb, fun C x q => absurd q (h.exn C x)⟩).imp fun d ⟨es', e, q⟩ => by
    subst e
    exact h.res d q
theorem cas_draw {m : Int} (h0 : 0 < m) (h1 : m < 2 ^ 200) : Cas fdDraw [.purse, .int m] 1 (fun d => ∃ i : Int, d = .int i ∧ 0 ≤ i ∧ i < m) :=
  ⟨rfl, ⟨m, rfl, h0, h1⟩, Nat.le_refl _, fun d ⟨m', i, e, h2, h3, h4⟩ => by
    cases e
    exact ⟨i, h2, h3, h4⟩, fun _ _ q => q⟩
theorem cl_make {ns : List Int} {k : Int} (h0 : 0 ≤ k) (h1 : k < 1000) : Cal fdMake [.scr ns, .int k] .purse := ⟨rfl, ⟨ns, k, rfl, h0, h1⟩, rfl, fun d h => h, fun _ _ q => q⟩
theorem cl_makeI {c k : Int} (h0 : 0 ≤ k) (h1 : k < 1000) : Cal fdMakeI [.int c, .int k] .purse := ⟨rfl, ⟨c, k, rfl, h0, h1⟩, rfl, fun d h => h, fun _ _ q => q⟩
/-! ### stores to items -/
def rSetD : V → V → V → Hp → (Hp → Prop) → Prop := fun o i v H Q => ∃ a H', o = .ref a ∧ DPut H a i v H' ∧ Q H'
def rSetA : V → V → V → Hp → (Hp → Prop) → Prop := fun o i v H Q => rSetL o i v H Q ∨ rSetD o i v H Q
theorem set_dict {X : Cx} (hu : X.A.units + 1 < cLine) : PSet X rSetD := by
  intro pins s σ H o i v ov iv u Q I ro ri rv h
  obtain ⟨a, H', rfl, g, q⟩ := h
  obtain rfl : ov = Value.ref a := ro
  exact d_setItem hu I g ri rv fun s4 I4 => ⟨H', I4, q⟩
theorem g_set {X : Cx} {k : Nat} (hr : Room k X.A) : PSet X rSetA := by
  intro pins s σ H o i v ov iv u Q I ro ri rv h
  rcases h with h | h
  · exact set_list pins s σ H o i v ov iv u Q I ro ri rv h
  · exact set_dict (hu_of hr) pins s σ H o i v ov iv u Q I ro ri rv h
theorem ixN_nn {n : Nat} {k : Int} (h0 : 0 ≤ k) (h : k < n) : ixN n k = some k.toNat := by
  unfold ixN
  rw [if_pos h0, if_pos h]
section
variable {G : Gx} {b b1 b2 : Nat} {te ti : TE} {ds : List Sd} {R : D → Prop} {d : D} {E : DE} {i : Nat} {k : Int} {xs : List D}
/-- xs[k] = e, xs handed in to be changed -/
theorem w_setP {a : Addr} (hi : ds[i]? = some (.par a xs)) (h : EvD G true b b1 te ds d) (hk : EvD G true b1 b2 ti ds (.int k)) (h0 : 0 ≤ k) (h1 : k < xs.length) (kk : E.nx (ds.set i (.par a (xs.set k.toNat d))) b2) :
    Wt G b (tAsg te (gSub (tVar i) ti rSetA)) ds E := fun gs M H σ S Dn w => by
  refine h gs M H σ S _ fun v d' H1 r e1 l1 rp => ?_
  subst r
  have S1 := S.step e1 l1
  obtain ⟨vs, hσ, m, ha, rr, n0⟩ := S1.parL hi
  refine ⟨.ref a, hσ, ?_⟩
  refine hk gs M H1 σ S1 _ fun v2 d2 H2 r2 e2 l2 rp2 => ?_
  subst r2
  cases rp2
  have S2 := S1.step e2 l2
  have ha2 : H2 a = some (.lst vs) := e2.keep _ _ ha fun _ z => nomatch z
  have hl : k < vs.length := by rw [rr.length]; exact h1
  exact .inl ⟨a, vs, k, k.toNat, rfl, rfl, ha2, ixN_nn h0 hl, w.nx M b2 _ σ _ (S2.chgP hi (RpA.set (rp.mono (msk_mono e2.toKp)) _ (rr.mono (msk_mono e2.toKp)))) kk⟩
/-- .. our own -/
theorem w_setO (hi : ds[i]? = some (.own xs)) (h : EvD G true b b1 te ds d) (hk : EvD G true b1 b2 ti ds (.int k)) (h0 : 0 ≤ k) (h1 : k < xs.length) (kk : E.nx (ds.set i (.own (xs.set k.toNat d))) b2) :
    Wt G b (tAsg te (gSub (tVar i) ti rSetA)) ds E := fun gs M H σ S Dn w => by
  refine h gs M H σ S _ fun v d' H1 r e1 l1 rp => ?_
  subst r
  have S1 := S.step e1 l1
  obtain ⟨a, vs, hσ, m, ha, rr, n0⟩ := S1.ownL hi
  refine ⟨.ref a, hσ, ?_⟩
  refine hk gs M H1 σ S1 _ fun v2 d2 H2 r2 e2 l2 rp2 => ?_
  subst r2
  cases rp2
  have S2 := S1.step e2 l2
  have ha2 : H2 a = some (.lst vs) := e2.keep _ _ ha fun _ z => nomatch z
  have hl : k < vs.length := by rw [rr.length]; exact h1
  exact .inl ⟨a, vs, k, k.toNat, rfl, rfl, ha2, ixN_nn h0 hl, w.nx M b2 _ σ _ (S2.chg hi hσ (RpA.set (rp.mono (msk_mono e2.toKp)) _ (rr.mono (msk_mono e2.toKp)))) kk⟩
end
end Sh

/-! Sh10: a law's own head. -/
namespace Sh
open PySem PySem.Spec PyProof.Rows L2
theorem law_in {K : PySem.W.Frag} {F : Fd} (h1 : F.n = 1) (hdom : ∀ ns : List Int, ns.length ≤ 63 → (∀ z ∈ ns, Builtin.Int.intBits z ≤ 1048576) → F.dom [.scr ns]) (hc : ∀ ns : List Int, ns.length ≤ 63 → F.cost [.scr ns] ≤ LIM) (hr : ∀ ds d, F.res ds d → d = .bl true) (he : ∀ ds C x, ¬ F.exn ds C x)
    {H : Hp} {a : Addr} {ns : List Int} (hl : ns.length ≤ 63) (hb : ∀ z ∈ ns, Builtin.Int.intBits z ≤ 1048576) (hO : Only H) (hS : SqL K H a (ns.map V.int)) : SpD K F [.ref a] H (fun v _ => v = .bl true) fun _ _ _ => False := by
  refine ⟨[.scr ns], fun _ => False, 0, fun _ z => z.elim, ⟨0, fun b φ e => ?_, ?_⟩, .cons (.scr ?_) .nil, h1.symm, hdom ns hl hb, fun v d H' r e l rp _ => ?_, fun C dd fsV fs H' z => absurd z (he _ _ _)⟩
  · rcases hO b with z | ⟨o, xs, z⟩
    · rw [e] at z
      cases z
    · rw [e] at z
      cases z
  · have := hc ns hl
    omega
  · refine Kp.scr (H := H) ⟨fun b o h hp => ?_, fun b n h => ?_⟩ ?_
    · rw [msk_no (fun z => z)]
      exact h
    · exact ⟨n, by rw [msk_no (fun z => z)]; exact h⟩
    · rcases hS with (z | z) | z
      · rcases hO a with q | ⟨o, xs, q⟩
        · rw [z] at q
          cases q
        · rw [z] at q
          cases q
      · exact .inl z
      · exact .inr z
  · have e2 := hr _ _ r
    subst e2
    cases rp
    rfl
theorem law_cx {P : Program} {w : World} {H : Hp} {s : Shared} {e : Value} {s' : Shared} (h : L2.CX P w [] H s (fun _ _ _ => False) e s') : False := by
  obtain ⟨a, B, H', cls, d, h1, h2, h3, h4, h5, h6, h7, h8⟩ := h
  exact h8
end Sh

/-! Sh11: a, *b, c = ..; isinstance, slices, sums, joins. -/
namespace Sh
open PySem PySem.Spec PySem.Calls PyProof.Rows L2

/-! ### a, *b, c = e -/
section
variable {prog : Program} {w : World} {A : Around} {E : Value → Shared → Prop} {s : Shared}
theorem star_mid {xs : List Value} {n i : Nat} {Q : List Value → Shared → Prop} (hi : i < n) (hn : n ≤ xs.length + 1) (hz : xs.length ≤ 16384)
    (hq : ∀ (D : Addr) h', (∀ b o, s.heap.get? b = some o → h'.get? b = some o) → s.heap.objs.size ≤ D → h'.get? D = some { cls := .type "list", dict := none, data := .seq ((xs.drop i).take (xs.length + 1 - n)).toArray 0, slots := #[] } → Q (xs.take i ++ [.ref D] ++ (xs.drop i).drop (xs.length + 1 - n)) { s with heap := h' }) :
    wpAny (model prog w) A (newList ((xs.drop i).take ((xs.drop i).length - (n - 1 - i))) >>= fun d => pure (xs.take i ++ [d] ++ (xs.drop i).drop ((xs.drop i).length - (n - 1 - i)))) Q E s := by
  have hmid : (xs.drop i).length - (n - 1 - i) = xs.length + 1 - n := by
    rw [List.length_drop]
    omega
  rw [hmid]
  refine wpAny_bind (m := newList _) (wpAny_newObj_type (wpAny_pure (hq _ _ (fun b o e => Heap.get?_push_of_some _ e) (Nat.le_refl _) (Heap.get?_push_size _ rfl))) ?_)
  show ((xs.drop i).take (xs.length + 1 - n)).toArray.size ≤ sizeLine
  rw [List.size_toArray, List.length_take, List.length_drop, sizeLine_eq]
  omega
theorem star_tup {l : Addr} {xs : List Value} {n i : Nat} {Q : List Value → Shared → Prop} (hl : IsTup s.heap l xs.toArray) (hh : A.handled = none) (hi : i < n) (hn : n ≤ xs.length + 1) (hz : xs.length ≤ 16384)
    (hq : ∀ (D : Addr) (h₂ h' : Heap) tk, (∀ b o, s.heap.get? b = some o → h₂.get? b = some o) → (∀ b o, h₂.get? b = some o → h'.get? b = some o) → h₂.objs.size ≤ D → h'.get? D = some { cls := .type "list", dict := none, data := .seq ((xs.drop i).take (xs.length + 1 - n)).toArray 0, slots := #[] } → Q (xs.take i ++ [.ref D] ++ (xs.drop i).drop (xs.length + 1 - n)) { s with heap := h', toks := tk }) :
    wpAny (model prog w) A (unpackItems (.ref l) n (some i)) Q E s := by
  have hlt : l ≠ s.heap.objs.size := by obtain ⟨o, ho, _⟩ := hl; exact Nat.ne_of_lt (Heap.lt_size ho)
  unfold unpackItems
  refine wpAny_bind ?_
  unfold notIterableAtAll
  refine wpAny_bind (wpAny_specialOf hl.typeIs slot_tuple_iter.lookup ?_)
  refine wpAny_pure ?_
  simp only [Bool.false_eq_true, if_false]
  refine wpAny_bind (wpAny_holding (iter_tuple hl ?_))
  refine wpAny_bind (wpAny_holding (draw_tuple hlt i 0 _ _ ⟨_, Heap.get?_push_size _ rfl, rfl, rfl⟩ (hl.push _) (by rw [List.size_toArray]; omega) fun h₁ hit₁ hs₁ => ?_))
  have hl₁ : IsTup h₁ l xs.toArray := (hl.push _).extBut hs₁.extBut hlt
  rw [Nat.zero_add] at hit₁
  obtain ⟨oi, hoi, _⟩ := id hit₁
  obtain ⟨ol, hol, _⟩ := id hl₁
  rw [List.drop_zero]
  have hfl : (xs.take i).length = i := by rw [List.length_take]; omega
  rw [if_neg (show ¬ ((xs.take i).length < i) by rw [hfl]; omega)]
  refine wpAny_bind (wpAny_holding (PySem.W.kun_collect (s := { s with heap := h₁ }) (T := "tuple_iterator") (.inr (.inr (.inr rfl))) (Walks.tuple (A := A.in1) hh s.heap.objs.size l hlt xs.toArray) (fun j u st => st.1.typeIs) (k := i) (by rw [List.size_toArray]; omega) ⟨hit₁, hl₁⟩ (Heap.lt_size hoi) (Heap.lt_size hol) (fun h₂ tk hk => ?_) (by rw [List.size_toArray, sizeLine_eq]; omega)))
  show wpAny _ _ (if (xs.drop i).length < n - 1 - i then _ else _) _ _ _
  rw [if_neg (by rw [List.length_drop]; omega)]
  have he : ∀ b o, s.heap.get? b = some o → h₂.get? b = some o := fun b o e => hk b o (Nat.ne_of_lt (Heap.lt_size e)) (hs₁.extBut b o (Nat.ne_of_lt (Heap.lt_size e)) (Heap.get?_push_of_some _ e))
  exact star_mid (s := { s with heap := h₂, toks := tk }) hi hn hz fun D h' k1 k2 k3 => hq D h₂ h' tk he k1 k2 k3
theorem star_lst {l : Addr} {xs : List Value} {n i : Nat} {Q : List Value → Shared → Prop} (hl : s.heap.IsList l xs.toArray) (hh : A.handled = none) (hi : i < n) (hn : n ≤ xs.length + 1) (hz : xs.length ≤ 16384)
    (hq : ∀ (D : Addr) (h₂ h' : Heap) tk, (∀ b o, s.heap.get? b = some o → h₂.get? b = some o) → (∀ b o, h₂.get? b = some o → h'.get? b = some o) → h₂.objs.size ≤ D → h'.get? D = some { cls := .type "list", dict := none, data := .seq ((xs.drop i).take (xs.length + 1 - n)).toArray 0, slots := #[] } → Q (xs.take i ++ [.ref D] ++ (xs.drop i).drop (xs.length + 1 - n)) { s with heap := h', toks := tk }) :
    wpAny (model prog w) A (unpackItems (.ref l) n (some i)) Q E s := by
  have hlt : l ≠ s.heap.objs.size := by obtain ⟨o, ho, _⟩ := hl; exact Nat.ne_of_lt (Heap.lt_size ho)
  unfold unpackItems
  refine wpAny_bind ?_
  unfold notIterableAtAll
  refine wpAny_bind (wpAny_specialOf hl.typeIs slot_list_iter.lookup ?_)
  refine wpAny_pure ?_
  simp only [Bool.false_eq_true, if_false]
  refine wpAny_bind (wpAny_holding (wpAny_pyIter_list hl ?_))
  refine wpAny_bind (wpAny_holding (PySem.W.kun_draw hlt i 0 _ _ ⟨_, Heap.get?_push_size _ rfl, rfl, rfl⟩ (hl.push _) (by rw [List.size_toArray]; omega) fun h₁ hit₁ hs₁ => ?_))
  have hl₁ : h₁.IsList l xs.toArray := (hl.push _).extBut hs₁.extBut hlt
  rw [Nat.zero_add] at hit₁
  obtain ⟨oi, hoi, _⟩ := id hit₁
  obtain ⟨ol, hol, _⟩ := id hl₁
  rw [List.drop_zero]
  have hfl : (xs.take i).length = i := by rw [List.length_take]; omega
  rw [if_neg (show ¬ ((xs.take i).length < i) by rw [hfl]; omega)]
  refine wpAny_bind (wpAny_holding (PySem.W.kun_collect (s := { s with heap := h₁ }) (T := "list_iterator") (.inr (.inr (.inl rfl))) (Walks.list (A := A.in1) hh s.heap.objs.size l hlt xs.toArray) (fun j u st => st.1.typeIs) (k := i) (by rw [List.size_toArray]; omega) ⟨hit₁, hl₁⟩ (Heap.lt_size hoi) (Heap.lt_size hol) (fun h₂ tk hk => ?_) (by rw [List.size_toArray, sizeLine_eq]; omega)))
  show wpAny _ _ (if (xs.drop i).length < n - 1 - i then _ else _) _ _ _
  rw [if_neg (by rw [List.length_drop]; omega)]
  have he : ∀ b o, s.heap.get? b = some o → h₂.get? b = some o := fun b o e => hk b o (Nat.ne_of_lt (Heap.lt_size e)) (hs₁.extBut b o (Nat.ne_of_lt (Heap.lt_size e)) (Heap.get?_push_of_some _ e))
  exact star_mid (s := { s with heap := h₂, toks := tk }) hi hn hz fun D h' k1 k2 k3 => hq D h₂ h' tk he k1 k2 k3
end
/-- .. = v, the i-th of n targets takes what is left over -/
def gStar (K : PySem.W.Frag) (n i : Nat) (t : TGs) : TG := fun v σ H Q => ∃ a xs, v = .ref a ∧ (SqT K H a xs ∨ SqL K H a xs) ∧ n ≤ xs.length + 1 ∧ xs.length ≤ 16384 ∧
  ∀ D, H D = none → t (xs.take i ++ [.ref D] ++ (xs.drop i).drop (xs.length + 1 - n)) σ (upd H D (.lst ((xs.drop i).take (xs.length + 1 - n)))) Q
theorem Vals.take {xs : List V} {us : List Value} (r : Vals xs us) : ∀ n, Vals (xs.take n) (us.take n) := fun n => by
  induction r generalizing n with
  | nil => rw [List.take_nil, List.take_nil]; exact .nil
  | cons r rr ih =>
    cases n with
    | zero => exact .nil
    | succ n => exact .cons r (ih n)
theorem Vals.drop {xs : List V} {us : List Value} (r : Vals xs us) : ∀ n, Vals (xs.drop n) (us.drop n) := fun n => by
  induction r generalizing n with
  | nil => rw [List.drop_nil, List.drop_nil]; exact .nil
  | cons r rr ih =>
    cases n with
    | zero => exact .cons r rr
    | succ n => exact ih n
theorem Vals.app {xs ys : List V} {us ws : List Value} (r : Vals xs us) (q : Vals ys ws) : Vals (xs ++ ys) (us ++ ws) := by
  induction r with
  | nil => exact q
  | cons r rr ih => exact .cons r ih
section
variable {X : Cx} {pos : Pos}
theorem pgs_star {e : Expr} {es : List Expr} {t : TG} {u : TGs} {p : Pos} (h1 : PG X e t) (h2 : PGs X es u)
    (hs : (assignEach (.Starred e p :: es) X.env).map (·.2) = assign e X.env :: (assignEach es X.env).map (·.2) := by rfl) : PGs X (.Starred e p :: es) (gCons t u) := by
  refine ⟨fun pins s σ H vs us Q I r h => ?_⟩
  obtain ⟨v, vr, e1, h⟩ := h
  subst e1
  cases r with
  | cons r rr =>
    rw [hs]
    refine assignInOrder_cons (thn (h1.run pins s σ H _ _ _ I r h) fun _ s1 ⟨σ1, H1, I1, q1⟩ => ?_)
    exact h2.run pins s1 σ1 H1 _ _ Q I1 rr q1
theorem g_star {K : PySem.W.Frag} (hK : X.K = K) {es : List Expr} {k : Nat} {t : TGs} {n i : Nat} (hc : X.calm = true) (h : PGs X es t)
    (hn : (assignEach es X.env).length = n := by rfl) (hst : (assignEach es X.env).findIdx? (·.1) = some i := by rfl) (hi : i < n := by decide) : PG X (.Tuple es k pos) (gStar K n i t) := by
  subst hK
  refine ⟨fun pins s σ H v u Q I r hw => ?_⟩
  obtain ⟨a, xs, e1, hq, h2, h3, hw⟩ := hw
  subst e1
  cases r
  rw [PyProof.Rows.assign_Tuple]
  refine wpAny_bind (wpAny_standAt ?_)
  unfold unpack
  rw [hn, hst]
  have fin : ∀ (its : List Value), Vals xs its → ∀ (D : Addr) (h₂ h' : Heap) tk, (∀ b o, s.heap.get? b = some o → h₂.get? b = some o) → (∀ b o, h₂.get? b = some o → h'.get? b = some o) → h₂.objs.size ≤ D →
      h'.get? D = some { cls := .type "list", dict := none, data := .seq ((its.drop i).take (its.length + 1 - n)).toArray 0, slots := #[] } →
      wpAny (model X.prog X.w) X.A (assignInOrder ((assignEach es X.env).map (·.2)) (its.take i ++ [.ref D] ++ (its.drop i).drop (its.length + 1 - n))) (fun _ s' => ∃ σ' H', Inv X pins σ' H' s' ∧ Q σ' H') X.xe { s with heap := h', toks := tk } := fun its rv D h₂ h' tk k1 k2 k3 k4 => by
    have I1 : Inv X pins σ H { s with heap := h₂, toks := tk } := I.kept k1
    have hD : H D = none := I1.hok.fresh k3
    rw [← rv.length] at k4 ⊢
    have rm : Vals ((xs.drop i).take (xs.length + 1 - n)) ((its.drop i).take (xs.length + 1 - n)) := Vals.take (Vals.drop rv i) _
    have I2 : Inv X pins σ (upd H D (.lst ((xs.drop i).take (xs.length + 1 - n)))) { s with heap := h', toks := tk } := I1.laid (t' := tk) k2 k3 (show ObjOk X.prog X.w _ h' _ (.lst _) from ⟨by rw [List.length_take, List.length_drop, sizeLine_eq]; omega, _, 0, rm, k4⟩)
    exact h.run pins _ σ _ _ _ Q I2 (Vals.app (Vals.app (Vals.take rv i) (.cons (show RelV (.ref D) (.ref D) from rfl) .nil)) (Vals.drop (Vals.drop rv i) _)) (hw D hD)
  rcases hq with hq | hq
  · obtain ⟨its, rv, ht, hz⟩ := I.tuple hq
    exact wpAny_bind (wpAny_holding (star_tup ht (I.ok.hd hc) hi (by rw [← rv.length]; exact h2) (by rw [← rv.length]; exact h3) (fin its rv)))
  · obtain ⟨its, rv, ht, hz⟩ := I.list hq
    exact wpAny_bind (wpAny_holding (star_lst ht.isList (I.ok.hd hc) hi (by rw [← rv.length]; exact h2) (by rw [← rv.length]; exact h3) (fin its rv)))
end
/-- by data -/
def D.items : D → Option (List D)
  | .tup xs => some xs
  | .lst xs => some xs
  | _ => none
theorem w_star {G : Gx} {b b' : Nat} {te : TE} {ds : List Sd} {d : D} {E : DE} {is : List Nat} {n i : Nat} {es : List D} (h : EvD G true b b' te ds d) (hd : d.items = some es) (h2 : n ≤ es.length + 1) (h3 : es.length ≤ 16384) (hi : i < n) (hl : is.length = n)
    (k : E.nx (setAll ds is (es.take i ++ [.lst ((es.drop i).take (es.length + 1 - n))] ++ (es.drop i).drop (es.length + 1 - n))) b') : Wt G b (tAsg te (gStar G.K n i (gNames is))) ds E := fun gs M H σ S Dn w =>
  h gs M H σ S _ fun v d' H' r e l rp => by
    subst r
    have S1 := S.step e l
    have main : ∀ a vs, v = .ref a → (SqT G.K H' a vs ∨ SqL G.K H' a vs) → RpA G.K (msk M H') vs es → gStar G.K n i (gNames is) v σ H' Dn.nx := fun a vs e1 hs ra => by
      refine ⟨a, vs, e1, hs, by rw [ra.length]; exact h2, by rw [ra.length]; exact h3, fun D hD => ?_⟩
      rw [ra.length]
      have rm : RpA G.K (msk M H') ((vs.drop i).take (es.length + 1 - n)) ((es.drop i).take (es.length + 1 - n)) := RpA.take _ (RpA.drop i ra)
      have e2 : Ext H' (upd H' D (.lst ((vs.drop i).take (es.length + 1 - n)))) := Ext.new hD
      have S2 := S1.step e2 (S1.lim.upd fun _ z => nomatch z)
      have kp := msk_mono (M := M) e2.toKp
      refine names_run is _ _ σ ds ?_ S2 (((RpA.take i ra).mono kp).append (.cons (new_lst S1.liv hD rm) .nil) |>.append ((RpA.drop _ (RpA.drop i ra)).mono kp)) fun σ' S' => w.nx M b' _ σ' _ S' k
      have := ra.length
      simp only [List.length_append, List.length_take, List.length_drop, List.length_cons, List.length_nil]
      omega
    cases rp with
    | tup hs ha => cases hd; exact main _ _ rfl (.inl (sqt_unm hs)) ha
    | lst hs ha => cases hd; exact main _ _ rfl (.inr (SqL.of (msk_of hs).2)) ha
    | _ => cases hd
end Sh

/-! Sh12: more words by data: slices, joins, sums, kinds. -/
namespace Sh
open PySem PySem.Spec PySem.Calls PyProof.Rows L2

/-! ### a source made of a number and a place -/
section
variable {P : Program} {w : World} {K : PySem.W.Frag} {mg : Str → Option Value} {base : Heap} {k : Nat} {f : Addr} {fd : FuncData} {ps : List Str}
theorem makeI_fn {x qual : Str} {st : Stmt} {N : List Str} (U : Fun K x qual st f fd) (S : FnScope N ps (defScope st)) (hps : ps.length = 2)
    (hbody : ∀ (cdv : Value) (A : Around) (outer : List Env) (s : Shared) (H : Hp) (E : XK), Room k (A.deeper (envOfC qual (defScope st) s.heap.objs.size f cdv)) → Takes (cxOf (L2.CX P w) P w K mg base N qual (defScope st) f cdv A outer s H E) (WD E) →
      ∃ t, PSs (cxOf (L2.CX P w) P w K mg base N qual (defScope st) f cdv A outer s H E) (defBody st) t ∧
        ∀ (M0 : Addr → Prop) (n c : Int) (b : Nat), 0 ≤ c → c < 1000 → Wt (gMake K H M0 E) b t (slots N.length [.int n, .int c]) (eMake b)) :
    FnOk P w K mg base (L2.CX P w) (k + 1) f fd ps (SpD K fdMakeI) := by
  refine makeI_view ?_ hps
  obtain ⟨oc, od, kV, doc, pm, an, cdv, ct, osl, rfl, lk, hcd⟩ := U.ex
  refine fn_of lk hcd S (fun vs H Q E ⟨n, c, e, _⟩ => by rw [e, hps]; rfl) fun A outer s H vs Q E hr hsp => ?_
  obtain ⟨t, h1, h2⟩ := hbody cdv A outer s H E hr (takes_of (E := E) rfl rfl rfl rfl)
  obtain ⟨n, c, rfl, c0, c1, b, hl, k⟩ := hsp
  refine ⟨t, h1, h2 (fun q => H q ≠ none) n c b c0 c1 [] _ H _ (start_stt (fun q h => h) hl (.cons (.int n) (.cons (.int c) .nil))) _ ⟨fun _ _ _ _ _ _ e => e.elim, fun M b' H' σ' ds' v d S' e rp _ => ?_, fun _ _ _ _ _ _ e => e.elim, fun _ _ _ _ _ _ e => e.elim⟩⟩
  obtain ⟨hb', x, y, rfl, g⟩ := e
  cases rp with
  | @lst q vs _ ha r =>
    cases r with
    | cons r1 r => cases r with | cons r2 r => cases r with | cons r3 r =>
      cases r
      cases r1
      cases r2
      cases r3
      obtain ⟨m1, m2⟩ := msk_of ha
      have hq : H q = none := by
        cases e : H q with
        | none => rfl
        | some o => exact absurd (by show H q ≠ none; rw [e]; exact fun z => nomatch z) m1
      exact k q x y H' hq g S'.ext (S'.lim.mono hb') m2
end

/-! ### calls whose answer nothing else knows -/
section
variable {G : Gx} {p : Bool} {b b' b1 b2 : Nat} {te ta tb : TE} {t tk : TA} {ds : List Sd} {F : Fd} {n m : Nat} {E : L2.St → XK} {es : List D}
theorem eos_cl {c : Nat} {R : List D → Prop} (ha : EaD G true b b1 t ds es) (ho : F.own = true) (h1 : es.length = F.n) (h2 : F.dom es) (h3 : F.cost es ≤ c) (h4 : ∀ d, F.res es d → ∃ xs, d = .lst xs ∧ R xs) (h5 : ∀ C x, ¬ F.exn es C x) (hn : es.length = n) (hb : c + b' ≤ b1) (ho2 : F.own2 = 0 := by rfl) :
    EvO G b b' (tCl n 0 (SpD G.K F) (fun vs _ => vs) E t tNil) ds R := fun gs M H σ S Q k =>
  ha gs M H σ S _ fun vs es' H1 r1 e1 l1 rp1 => by
    subst r1
    have S1 := S.step e1 l1
    refine ⟨by rw [rp1.length, hn], rfl, es', M, b', S1.liv, l1.mono (Nat.le_trans (Nat.add_le_add_right h3 _) hb), rp1, h1, h2, fun v d H3 rd e3 l3 rp3 o => ?_, fun C dd fsV x H3 rx => absurd rx (h5 C x)⟩
    have o := o ho
    rw [ho2] at o
    obtain ⟨a, ws, xs, rfl, rfl, q1, q2, q3⟩ := o
    obtain ⟨ys, e4, r4⟩ := h4 _ rd
    cases e4
    exact k a ws xs H3 r4 (e1.trans e3) l3 (e1.free q1) q2 q3
/-- a copy of a list or a tuple -/
theorem eo_listof {K : PySem.W.Frag} {r : List V → Hp → VK → Prop} (hr : ∀ (p : Addr) (ys : List V) (H : Hp) (Q : VK), (SqL G.K H p ys ∨ SqT G.K H p ys) → (∀ l, H l = none → Q (.ref l) (upd H l (.lst ys))) → r [.ref p] H Q)
    {d : D} {xs : List D} (h : EaD G true b b' t ds [d]) (hd : d.items = some xs) : EoD G b b' (tCB r t) ds xs := fun gs M H σ S Q k =>
  h gs M H σ S _ fun vs es H1 r1 e1 l1 rp => by
    subst r1
    cases rp with
    | cons rp r2 =>
      cases r2
      have main : ∀ a ws, (SqL G.K H1 a ws ∨ SqT G.K H1 a ws) → RpA G.K (msk M H1) ws xs → r [.ref a] H1 Q := fun a ws hs ra => hr a ws H1 Q hs fun l hl => k l ws xs _ rfl (e1.trans (Ext.new hl)) (l1.upd fun _ z => nomatch z) (e1.free hl) upd_same (eo_new (H' := H1) hl ra)
      cases rp with
      | tup hs ha => cases hd; exact main _ _ (.inr (sqt_unm hs)) ha
      | lst hs ha => cases hd; exact main _ _ (.inl (SqL.of (msk_of hs).2)) ha
      | _ => cases hd
end
/-- a copy of our own -/
def rListOf (K : PySem.W.Frag) : List V → Hp → VK → Prop := fun xs H Q => ∃ p ys, xs = [.ref p] ∧ (SqL K H p ys ∨ SqT K H p ys) ∧ ∀ l, H l = none → Q (.ref l) (upd H l (.lst ys))
theorem g_listof {X : Cx} {K : PySem.W.Frag} (hK : X.K = K) : CallR X (.type "list") (rListOf K) := by subst hK; exact call_list_of
def rTupOf (K : PySem.W.Frag) : List V → Hp → VK → Prop := fun xs H Q => ∃ p ys, xs = [.ref p] ∧ ((SqL K H p ys ∧ ∀ l, H l = none → Q (.ref l) (upd H l (.tup ys))) ∨ (SqT K H p ys ∧ Q (.ref p) H))
theorem g_tupof {X : Cx} {K : PySem.W.Frag} (hK : X.K = K) : CallR X (.type "tuple") (rTupOf K) := by subst hK; exact call_tuple_of
section
variable {G : Gx} {p : Bool} {b b' b1 b2 b3 : Nat} {te ta tb : TE} {t tk : TA} {ds : List Sd} {K : PySem.W.Frag} {d x y z : D} {xs ys : List D} {i j : Int}
theorem eo_list (h : EaD G true b b' t ds [d]) (hd : d.items = some xs) : EoD G b b' (tCB (rListOf G.K) t) ds xs := eo_listof (K := G.K) (fun p ys H Q hs k => ⟨p, ys, rfl, hs, k⟩) h hd
theorem eo_listOwn {i : Nat} (hi : ds[i]? = some (.own xs)) : EoD G b b (tCB (rListOf G.K) (tCons (tVar i) tNil)) ds xs := fun gs M H σ S Q k => by
  obtain ⟨a, vs, hσ, m, ha, r, n0⟩ := S.ownL hi
  exact ⟨.ref a, hσ, a, vs, rfl, .inl (SqL.of ha), fun l hl => k l vs xs _ rfl (Ext.new hl) (S.lim.upd fun _ z => nomatch z) hl upd_same (eo_new (H' := H) hl r)⟩
theorem c_listof (hd : d.items = some xs) : ClD K (rListOf K) [d] (.lst xs) := fun N b H vs Q hN l r k => by
  cases r with
  | cons rp r2 =>
    cases r2
    cases rp with
    | tup hs ha => cases hd; exact ⟨_, _, rfl, .inr (sqt_unm hs), fun q hq => k _ _ _ rfl (Ext.new hq) (l.upd fun _ z => nomatch z) (new_lst hN hq ha)⟩
    | lst hs ha => cases hd; exact ⟨_, _, rfl, .inl (SqL.of (msk_of hs).2), fun q hq => k _ _ _ rfl (Ext.new hq) (l.upd fun _ z => nomatch z) (new_lst hN hq ha)⟩
    | _ => cases hd
theorem c_tupof (hd : d.items = some xs) : ClD K (rTupOf K) [d] (.tup xs) := fun N b H vs Q hN l r k => by
  cases r with
  | cons rp r2 =>
    cases r2
    cases rp with
    | tup hs ha => cases hd; exact ⟨_, _, rfl, .inr ⟨sqt_unm hs, k _ _ _ rfl (Ext.refl H) l (.tup hs ha)⟩⟩
    | lst hs ha => cases hd; exact ⟨_, _, rfl, .inl ⟨SqL.of (msk_of hs).2, fun q hq => k _ _ _ rfl (Ext.new hq) (l.upd fun _ z => nomatch z) (new_tup hN hq ha)⟩⟩
    | _ => cases hd

/-! ### + of tuples, of lists -/
theorem o_catT (hl : xs.length + ys.length ≤ 100000) : Op2D K (rAddA K) (.tup xs) (.tup ys) (.tup (xs ++ ys)) := fun N b H v u Q hN l r1 r2 k => by
  cases id r1 with
  | @tup a vs _ h1 a1 =>
    cases id r2 with
    | @tup c ws _ h2 a2 =>
      have e1 := a1.length
      have e2 := a2.length
      refine .inr (.inr (.inr ⟨a, c, vs, ws, rfl, rfl, sqt_unm h1, sqt_unm h2, by rw [e1, e2]; exact Nat.le_trans hl (by decide), fun z => ?_, fun z z2 => ?_, fun z z2 q hq => ?_⟩))
      · subst z
        cases a1
        exact k _ _ _ rfl (Ext.refl H) l (by rw [List.nil_append]; exact r2)
      · subst z2
        cases a2
        exact k _ _ _ rfl (Ext.refl H) l (by rw [List.append_nil]; exact r1)
      · exact k _ _ _ rfl (Ext.new hq) (l.upd fun _ z => nomatch z) (new_tup hN hq (a1.append a2))
theorem o_catL (hl : xs.length + ys.length ≤ 100000) : Op2D K (rAddA K) (.lst xs) (.lst ys) (.lst (xs ++ ys)) := fun N b H v u Q hN l r1 r2 k => by
  cases r1 with
  | @lst a vs _ h1 a1 =>
    cases r2 with
    | @lst c ws _ h2 a2 =>
      have e1 := a1.length
      have e2 := a2.length
      exact .inr (.inr (.inl ⟨a, c, vs, ws, rfl, rfl, (msk_of h1).2, (msk_of h2).2, by rw [e1, e2]; exact Nat.le_trans hl (by decide), fun q hq => k _ _ _ rfl (Ext.new hq) (l.upd fun _ z => nomatch z) (new_lst hN hq (a1.append a2))⟩))
theorem o_addS {s u : Str} (h : s.length + u.length ≤ 100000) : Op2D K (rAddA K) (.str s) (.str u) (.str (s ++ u)) := fun N b H v w Q hN l r1 r2 k => by
  cases r1
  cases r2
  exact .inr (.inl ⟨s, u, rfl, rfl, Nat.le_trans h (by decide), k _ _ _ rfl (Ext.refl H) l (.str _)⟩)
theorem o_rep (h0 : -(2 ^ 62) ≤ i ∧ i < 2 ^ 62) (hl : xs.length * i.toNat ≤ 100000) : Op2D K rMulA (.lst xs) (.int i) (.lst (List.replicate i.toNat xs).flatten) := fun N b H v u Q hN l r1 r2 k => by
  cases r2
  cases r1 with
  | @lst a vs _ h1 a1 =>
    have rep : ∀ n : Nat, RpA K (msk N H) (List.replicate n vs).flatten (List.replicate n xs).flatten := fun n => by
      induction n with
      | zero => exact .nil
      | succ n ih =>
        rw [List.replicate_succ, List.replicate_succ, List.flatten_cons, List.flatten_cons]
        exact a1.append ih
    refine .inr ⟨a, i, vs, rfl, rfl, (msk_of h1).2, by omega, by omega, by rw [a1.length]; exact Nat.le_trans hl (by decide), fun q hq => k _ _ _ rfl (Ext.new hq) (l.upd fun _ z => nomatch z) (new_lst hN hq (rep _))⟩

/-! ### slices -/
def slcD (xs : List D) (lo hi : Option Int) : List D := (xs.drop (HT.sIx xs.length 0 lo)).take (HT.sIx xs.length xs.length hi - HT.sIx xs.length 0 lo)
theorem RpA.cut {H : Hp} {vs : List V} {ds : List D} (r : RpA K H vs ds) (lo hi : Option Int) : RpA K H (cutV vs lo hi) (slcD ds lo hi) := by
  unfold cutV slcD
  rw [r.length]
  exact RpA.take _ (RpA.drop _ r)
def rSlG (K : PySem.W.Frag) : V → Option Int → Option Int → Hp → VK → Prop := fun x lo hi H Q => rSlL K x lo hi H Q ∨ rSlA K x lo hi H Q ∨ rSlS x lo hi H Q
theorem g_slice {X : Cx} (hK : X.K = K) : SlR X (rSlG K) := by subst hK; exact sl_list.or (sl_tupA.or sl_str)
def SlD (K : PySem.W.Frag) (x : D) (lo hi : Option Int) (z : D) : Prop := ∀ (N : Addr → Prop) (b : Nat) (H : Hp) (v : V) (Q : VK), (∀ a, N a → H a ≠ none) → Lim b H → Rp K (msk N H) v x →
  (∀ y H', Ext H H' → Lim b H' → Rp K (msk N H') y z → Q y H') → rSlG K v lo hi H Q
theorem sl_L {lo hi : Option Int} : SlD K (.lst xs) lo hi (.lst (slcD xs lo hi)) := fun N b H v Q hN l r k => by
  cases r with
  | lst h1 a1 => exact .inl ⟨_, _, rfl, SqL.of (msk_of h1).2, fun q hq => k _ _ (Ext.new hq) (l.upd fun _ z => nomatch z) (new_lst hN hq (a1.cut lo hi))⟩
theorem sl_T {lo hi : Option Int} : SlD K (.tup xs) lo hi (.tup (slcD xs lo hi)) := fun N b H v Q hN l r k => by
  cases id r with
  | @tup a vs _ h1 a1 =>
    refine .inr (.inl ⟨a, vs, rfl, sqt_unm h1, fun z => ?_, fun z q hq => k _ _ (Ext.new hq) (l.upd fun _ z => nomatch z) (new_tup hN hq (a1.cut lo hi))⟩)
    have e : slcD xs lo hi = xs := by
      rw [a1.length] at z
      unfold slcD
      rw [z.1, z.2, List.drop_zero, Nat.sub_zero, List.take_length]
    exact k _ _ (Ext.refl H) l (by rw [e]; exact r)
def EpD (G : Gx) (b b' : Nat) (to : TO) (ds : List Sd) (o : Option Int) : Prop := ∀ gs M H σ, G.st gs M b H σ ds → ∀ Q : Option Int → Hp → Prop, (∀ H', Ext H H' → Lim b' H' → Q o H') → to σ H Q
theorem ep_none : EpD G b b tNoPart ds none := fun gs M H σ S Q k => k H (Ext.refl H) S.lim
theorem ep_some (h : EvD G false b b' te ds (.int i)) : EpD G b b' (tPart te) ds (some i) := fun gs M H σ S Q k => h gs M H σ S _ fun v d H' r e l rp => by
  subst r
  cases rp
  exact ⟨i, rfl, k H' e l⟩
theorem ev_slice {tl th : TO} {lo hi : Option Int} (h : EvD G p b b1 te ds x) (hl : EpD G b1 b2 tl ds lo) (hh : EpD G b2 b3 th ds hi) (hs : SlD G.K x lo hi z) : EvD G p b b3 (tSl (rSlG G.K) te tl th) ds z := fun gs M H σ S Q k =>
  h gs M H σ S _ fun v d H1 r e1 l1 rp => hl gs M H1 σ (S.step e1 l1) _ fun H2 e2 l2 => hh gs M H2 σ ((S.step e1 l1).step e2 l2) _ fun H3 e3 l3 => by
    subst r
    have S3 := ((S.step e1 l1).step e2 l2).step e3 l3
    exact hs _ b3 H3 v Q (S3.mm p) l3 ((rp.mono (msk_mono e2.toKp)).mono (msk_mono e3.toKp)) fun y H4 e4 l4 rp4 => k y _ H4 rfl (((e1.trans e2).trans e3).trans e4) l4 rp4

/-! ### sums, all, any, len -/
def rSumT (K : PySem.W.Frag) : List V → Hp → VK → Prop := fun vs H Q => ∃ (a : Addr) (ns : List Int), vs = [V.ref a] ∧ SqT K H a (ns.map V.int) ∧ Q (.int ns.sum) H
theorem cr_sumT {X : Cx} (hc : X.calm = true) : CallR X (.builtin "sum") (rSumT X.K) := by
  intro pins s σ H vs us Q I r h
  obtain ⟨a, ns, rfl, hs, q⟩ := h
  obtain ⟨its, rv, hl, _⟩ := I.tuple hs
  rw [Vals.ref1 r]
  obtain ⟨ys, e⟩ := rv.ints.allInts.items
  have hn : numsOf (intItems ys).toList = ns := by rw [← e]; exact rv.ints.numsOf
  rw [nums_intItems] at hn
  rw [e] at hl
  refine PySem.W.ktm_sumG (I.ok.hd hc) hl fun h' tk t' hk => ?_
  rw [preSum_eq, List.take_of_length_le (by simp), hn]
  exact ⟨.int _, H, I.kept hk, ⟨_, rfl⟩, q⟩
def rSumA (K : PySem.W.Frag) : List V → Hp → VK → Prop := fun vs H Q => rSum K vs H Q ∨ rSumT K vs H Q
theorem g_sum {X : Cx} (hK : X.K = K) (hc : X.calm = true) : CallR X (.builtin "sum") (rSumA K) := by subst hK; exact (cr_sum hc).or (cr_sumT hc)
theorem c_sumL {ns : List Int} (e : xs = ns.map D.int) : ClD K (rSumA K) [.lst xs] (.int ns.sum) := fun N b H vs Q hN l r k => by
  subst e
  cases r with
  | cons rp r2 =>
    cases r2
    cases rp with
    | lst hs ha =>
      have e := RpA.ints ha
      subst e
      exact .inl ⟨_, ns, rfl, SqL.of (msk_of hs).2, k _ _ _ rfl (Ext.refl H) l (.int _)⟩
theorem c_sumT {ns : List Int} (e : xs = ns.map D.int) : ClD K (rSumA K) [.tup xs] (.int ns.sum) := fun N b H vs Q hN l r k => by
  subst e
  cases r with
  | cons rp r2 =>
    cases r2
    cases rp with
    | tup hs ha =>
      have e := RpA.ints ha
      subst e
      exact .inr ⟨_, ns, rfl, sqt_unm hs, k _ _ _ rfl (Ext.refl H) l (.int _)⟩
theorem g_all {X : Cx} (hK : X.K = K) (hc : X.calm = true) : CallR X (.builtin "all") (rAll K) := by subst hK; exact cr_all hc
theorem g_any {X : Cx} (hK : X.K = K) (hc : X.calm = true) : CallR X (.builtin "any") (rAny K) := by subst hK; exact cr_any hc
theorem c_all {bs : List Bool} (e : xs = bs.map D.bl) : ClD K (rAll K) [.lst xs] (.bl (bs.all id)) := fun N b H vs Q hN l r k => by
  subst e
  cases r with
  | cons rp r2 =>
    cases r2
    cases rp with
    | lst hs ha =>
      have e := RpA.bools ha
      subst e
      exact ⟨_, bs, rfl, SqL.of (msk_of hs).2, k _ _ _ rfl (Ext.refl H) l (.bl _)⟩
theorem c_any {bs : List Bool} (e : xs = bs.map D.bl) : ClD K (rAny K) [.lst xs] (.bl (bs.any id)) := fun N b H vs Q hN l r k => by
  subst e
  cases r with
  | cons rp r2 =>
    cases r2
    cases rp with
    | lst hs ha =>
      have e := RpA.bools ha
      subst e
      exact ⟨_, bs, rfl, SqL.of (msk_of hs).2, k _ _ _ rfl (Ext.refl H) l (.bl _)⟩

/-! ### kinds -/
/-- the name of a value's class, built-in -/
def D.kind : D → Option String
  | .non => some "NoneType"
  | .bl _ => some "bool"
  | .int _ => some "int"
  | .str _ => some "str"
  | .lst _ => some "list"
  | .tup _ => some "tuple"
  | .dct _ => some "dict"
  | .dtt _ => some "dict"
  | .scr _ => some "list"
  | _ => none
theorem Rp.tyX {H : Hp} {v : V} {s : String} (r : Rp K H v d) (h : d.kind = some s) : TyX K H v (.type s) := by
  cases r with
  | non => cases h; exact .base .non
  | bl b => cases h; exact .base (.bl b)
  | int b => cases h; exact .base (.int b)
  | str b => cases h; exact .base (.str b)
  | lst ha r => cases h; exact .base (.lst ha)
  | scr ha =>
    cases h
    rcases ha with ⟨o, ha⟩ | ⟨o, its, n, ha, hc, _⟩
    · exact .base (.frz ha)
    · exact .kList ha hc
  | tup ha r =>
    cases h
    rcases ha with (ha | ⟨o, ha⟩) | ⟨o, its, n, ha, hc, _⟩
    · exact .base (.tup ha)
    · exact .fTuple ha
    · exact .kTuple ha hc
  | dct ha r => cases h; exact .base (.dK ha)
  | dtt ha r => cases h; exact .base (.dT ha)
  | _ => cases h
theorem g_isi {X : Cx} (hK : X.K = K) : CallR X (.builtin "isinstance") (rIsi K) := by subst hK; exact call_isi
theorem c_isi {s u : String} {r : Bool} (h : d.kind = some s) (hk : kitB s u = some r) : ClD K (rIsi K) [d, .ty u] (.bl r) := fun N b H vs Q hN l rr k => by
  cases rr with
  | cons r1 r2 =>
    cases r2 with
    | cons r2 r3 =>
      cases r3
      cases r2
      exact ⟨_, _, _, _, r, rfl, .ty u, (r1.mono msk_all).tyX h, kit_ty hk, k _ _ _ rfl (Ext.refl H) l (.bl _)⟩
/-- isinstance(e, (T, U)) -/
theorem g_isiT {X : Cx} (hK : X.K = K) : CallR X (.builtin "isinstance") (rIsiT K) := by subst hK; exact call_isiT
theorem ev_isi2 {s u u2 : String} {r r2 : Bool} (h : EvD G false b b' te ds d) (hd : d.kind = some s) (h1 : kitB s u = some r) (h2 : kitB s u2 = some r2) : EvD G p b b' (tCB (rIsiT G.K) (tCons te (tCons (tTup (tCons (tC (.ty u)) (tCons (tC (.ty u2)) tNil))) tNil))) ds (.bl (r || r2)) := fun gs M H σ S Q k =>
  h gs M H σ S _ fun v d' H1 e e1 l1 rp => by
    subst e
    refine ⟨(by show 2 ≤ sizeLine; rw [sizeLine_eq]; decide), fun a ha => ⟨v, a, [.ty u, .ty u2], _, [.type u, .type u2], r || r2, rfl, upd_same, .cons (.ty u) (.cons (.ty u2) .nil), ((rp.mono msk_all).mono (Ext.new ha).toKp).tyX hd, kitAny_cons (kit_ty h1) (fun e => kitAny_cons (kit_ty h2) (fun e2 => by rw [e, e2]; exact kitAny_nil) fun e2 => by rw [e2, Bool.or_true]) (fun e => by rw [e, Bool.true_or]), ?_⟩⟩
    exact k _ _ _ rfl (e1.trans (Ext.new ha)) (l1.upd fun _ z => nomatch z) (.bl _)
/-- int(..) -/
def rIntI : List V → Hp → VK → Prop := fun xs H Q => (∃ i, xs = [.int i] ∧ Q (.int i) H) ∨ ∃ k, xs = [.bl k] ∧ Q (.int (if k then 1 else 0)) H
theorem g_int {X : Cx} : CallR X (.type "int") rIntI := call_int1
theorem c_intI : ClD K rIntI [.int i] (.int i) := fun N b H vs Q hN l r k => by
  cases r with
  | cons r1 r => cases r; cases r1; exact .inl ⟨i, rfl, k _ _ _ rfl (Ext.refl H) l (.int _)⟩
theorem c_intB {c : Bool} : ClD K rIntI [.bl c] (.int (if c then 1 else 0)) := fun N b H vs Q hN l r k => by
  cases r with
  | cons r1 r => cases r; cases r1; exact .inr ⟨c, rfl, k _ _ _ rfl (Ext.refl H) l (.int _)⟩
/-- abs(..) -/
def rAbsI : List V → Hp → VK → Prop := fun xs H Q => ∃ i, xs = [.int i] ∧ Q (.int (if i < 0 then -i else i)) H
theorem g_abs {X : Cx} : CallR X (.builtin "abs") rAbsI := call_abs
end
/-! ### list(range(..)) -/
section
variable {G : Gx} {p : Bool} {b b' b1 b2 b3 : Nat} {te ta tb : TE} {ds : List Sd} {i j : Int}
theorem rgV_D {K : PySem.W.Frag} {H : Hp} (i j : Int) : RpA K H (rgV i j) ((List.range (j - i).toNat).map fun k => D.int (i + (k : Nat))) := by
  unfold rgV
  induction List.range (j - i).toNat with
  | nil => exact .nil
  | cons x xs ih => exact .cons (.int _) ih
theorem eo_rg1 (h : EvD G false b b' ta ds (.int i)) (h0 : -(2 ^ 62) ≤ i ∧ i ≤ 100000) : EoD G b b' (tLstRg (tRg1 ta)) ds ((List.range i.toNat).map fun k => D.int (k : Nat)) := fun gs M H σ S Q k =>
  h gs M H σ S _ fun v d H1 r e1 l1 rp => by
    subst r
    cases rp
    refine ⟨i, rfl, ⟨by omega, by omega, h0.1, by omega, by omega⟩, fun q hq => ?_⟩
    refine k q _ _ _ ?_ (e1.trans (Ext.new hq)) (l1.upd fun _ z => nomatch z) (e1.free hq) upd_same (eo_new (H' := H1) hq (rgV_D 0 i))
    rw [Int.sub_zero]
    exact List.map_congr_left fun k _ => by rw [Int.zero_add]
theorem eo_rg2 (h : EvD G false b b1 ta ds (.int i)) (h2 : EvD G false b1 b' tb ds (.int j)) (h0 : -(2 ^ 62) ≤ i ∧ i < 2 ^ 62 ∧ -(2 ^ 62) ≤ j ∧ j < 2 ^ 62 ∧ (j - i).toNat ≤ 100000) : EoD G b b' (tLstRg (tRg2 ta tb)) ds ((List.range (j - i).toNat).map fun k => D.int (i + (k : Nat))) := fun gs M H σ S Q k =>
  h gs M H σ S _ fun v d H1 r e1 l1 rp => h2 gs M H1 σ (S.step e1 l1) _ fun u d2 H2 r2 e2 l2 rp2 => by
    subst r r2
    cases rp
    cases rp2
    refine ⟨i, j, rfl, rfl, ⟨h0.1, h0.2.1, h0.2.2.1, h0.2.2.2.1, by omega⟩, fun q hq => ?_⟩
    exact k q _ _ _ rfl ((e1.trans e2).trans (Ext.new hq)) (l2.upd fun _ z => nomatch z) ((e1.trans e2).free hq) upd_same (eo_new (H' := H2) hq (rgV_D i j))
end
end Sh

/-! Sh13: a = b = e, x += e, pop. -/
namespace Sh
open PySem PySem.Spec PySem.Calls PyProof.Rows L2
section
variable {G : Gx} {p : Bool} {b b' b1 b2 b3 : Nat} {te ta tb : TE} {t tk : TA} {ds : List Sd} {d x y z : D} {xs ys : List D} {i j : Nat} {E : DE}
theorem w_asg2 (h : EvD G true b b' te ds d) (k : E.nx ((ds.set i (.dat d)).set j (.dat d)) b') : Wt G b (tAsg2 te (gName i) (gName j)) ds E := fun gs M H σ S Dn w =>
  h gs M H σ S _ fun v d' H' r e l rp => by
    subst r
    exact w.nx M b' H' _ _ (((S.step e l).set rp).set rp) k
/-- name op= e, numbers -/
theorem w_aug {f : Int → Int → Int} {m n : Int} (hi : ds[i]? = some (.dat (.int m))) (h : EvD G false b b' te ds (.int n)) (k : E.nx (ds.set i (.dat (.int (f m n)))) b') : Wt G b (tAug i te (ipI f)) ds E := fun gs M H σ S Dn w => by
  obtain ⟨v, e, r⟩ := S.var hi
  cases r
  refine ⟨_, e, h gs M H σ S _ fun u d' H' r e l rp => ?_⟩
  subst r
  cases rp
  exact ⟨m, n, rfl, rfl, w.nx M b' H' _ _ ((S.step e l).set (.int _)) k⟩
theorem ws_aug {f : Int → Int → Int} {m : Int} {R : Int → Prop} (hi : ds[i]? = some (.dat (.int m))) (h : EvS G false b b' te ds (fun d => ∃ n, d = .int n ∧ R n)) (k : ∀ n, R n → E.nx (ds.set i (.dat (.int (f m n)))) b') : Wt G b (tAug i te (ipI f)) ds E := fun gs M H σ S Dn w => by
  obtain ⟨v, e, r⟩ := S.var hi
  cases r
  refine ⟨_, e, h gs M H σ S _ fun u d' H' r e l rp => ?_⟩
  obtain ⟨n, rfl, q⟩ := r
  cases rp
  exact ⟨m, n, rfl, rfl, w.nx M b' H' _ _ ((S.step e l).set (.int _)) (k n q)⟩
theorem w_par {d1 d2 : D} (h : EaD G true b b' t ds [d1, d2]) (k : E.nx ((ds.set i (.dat d1)).set j (.dat d2)) b') : Wt G b (tPar i j t) ds E := fun gs M H σ S Dn w =>
  h gs M H σ S _ fun vs es H' r e l rp => by
    subst r
    cases rp with
    | cons r1 r2 => cases r2 with
      | cons r2 r3 =>
        cases r3
        exact ⟨_, _, rfl, w.nx M b' H' _ _ (((S.step e l).set r1).set r2) k⟩
theorem ev_ty {n : String} : EvD G p b b (tC (.ty n)) ds (.ty n) := fun gs M H σ S Q k => k _ _ H rfl (Ext.refl H) S.lim (.ty n)
end
theorem gi_add {X : Cx} : PIp X .Add (ipI fun i j => i + j) := ip_add
theorem gi_sub {X : Cx} : PIp X .Sub (ipI fun i j => i - j) := ip_sub
theorem g_append {X : Cx} : MtR X "list.append" rAppend := mt_append
theorem g_popAt {X : Cx} : MtR X "list.pop" rPopAt := mt_popAt
end Sh
namespace Sh
open PySem PySem.Spec PySem.Calls PyProof.Rows L2
theorem EvD.wk {G : Gx} {p : Bool} {b b' : Nat} {te : TE} {ds : List Sd} {d : D} (h : EvD G true b b' te ds d) : EvD G p b b' te ds d := EvS.wk h
theorem EvA.imp {G : Gx} {p : Bool} {b b' : Nat} {t : TA} {ds : List Sd} {R R' : List D → Prop} (h : EvA G p b b' t ds R) (i : ∀ es, R es → R' es) : EvA G p b b' t ds R' := fun gs M H σ S Q k => h gs M H σ S Q fun vs es H' r => k vs es H' (i es r)
end Sh
namespace Sh
open PySem PySem.Spec PySem.Calls PyProof.Rows L2
theorem kb_NoneType_bool : kitB "NoneType" "bool" = some false := by decide +kernel
theorem kb_NoneType_int : kitB "NoneType" "int" = some false := by decide +kernel
theorem kb_NoneType_str : kitB "NoneType" "str" = some false := by decide +kernel
theorem kb_NoneType_list : kitB "NoneType" "list" = some false := by decide +kernel
theorem kb_NoneType_tuple : kitB "NoneType" "tuple" = some false := by decide +kernel
theorem kb_NoneType_dict : kitB "NoneType" "dict" = some false := by decide +kernel
theorem kb_bool_bool : kitB "bool" "bool" = some true := by decide +kernel
theorem kb_bool_int : kitB "bool" "int" = some true := by decide +kernel
theorem kb_bool_str : kitB "bool" "str" = some false := by decide +kernel
theorem kb_bool_list : kitB "bool" "list" = some false := by decide +kernel
theorem kb_bool_tuple : kitB "bool" "tuple" = some false := by decide +kernel
theorem kb_bool_dict : kitB "bool" "dict" = some false := by decide +kernel
theorem kb_int_bool : kitB "int" "bool" = some false := by decide +kernel
theorem kb_int_int : kitB "int" "int" = some true := by decide +kernel
theorem kb_int_str : kitB "int" "str" = some false := by decide +kernel
theorem kb_int_list : kitB "int" "list" = some false := by decide +kernel
theorem kb_int_tuple : kitB "int" "tuple" = some false := by decide +kernel
theorem kb_int_dict : kitB "int" "dict" = some false := by decide +kernel
theorem kb_str_bool : kitB "str" "bool" = some false := by decide +kernel
theorem kb_str_int : kitB "str" "int" = some false := by decide +kernel
theorem kb_str_str : kitB "str" "str" = some true := by decide +kernel
theorem kb_str_list : kitB "str" "list" = some false := by decide +kernel
theorem kb_str_tuple : kitB "str" "tuple" = some false := by decide +kernel
theorem kb_str_dict : kitB "str" "dict" = some false := by decide +kernel
theorem kb_list_bool : kitB "list" "bool" = some false := by decide +kernel
theorem kb_list_int : kitB "list" "int" = some false := by decide +kernel
theorem kb_list_str : kitB "list" "str" = some false := by decide +kernel
theorem kb_list_list : kitB "list" "list" = some true := by decide +kernel
theorem kb_list_tuple : kitB "list" "tuple" = some false := by decide +kernel
theorem kb_list_dict : kitB "list" "dict" = some false := by decide +kernel
theorem kb_tuple_bool : kitB "tuple" "bool" = some false := by decide +kernel
theorem kb_tuple_int : kitB "tuple" "int" = some false := by decide +kernel
theorem kb_tuple_str : kitB "tuple" "str" = some false := by decide +kernel
theorem kb_tuple_list : kitB "tuple" "list" = some false := by decide +kernel
theorem kb_tuple_tuple : kitB "tuple" "tuple" = some true := by decide +kernel
theorem kb_tuple_dict : kitB "tuple" "dict" = some false := by decide +kernel
theorem kb_dict_bool : kitB "dict" "bool" = some false := by decide +kernel
theorem kb_dict_int : kitB "dict" "int" = some false := by decide +kernel
theorem kb_dict_str : kitB "dict" "str" = some false := by decide +kernel
theorem kb_dict_list : kitB "dict" "list" = some false := by decide +kernel
theorem kb_dict_tuple : kitB "dict" "tuple" = some false := by decide +kernel
theorem kb_dict_dict : kitB "dict" "dict" = some true := by decide +kernel
end Sh
namespace Sh
open PySem PySem.Spec PySem.Calls PyProof.Rows L2
theorem Cal.cas {F : Fd} {es : List D} {z : D} (h : Cal F es z) : Cas F es 0 (fun d => d = z) := ⟨h.n, h.dom, by rw [h.cost]; exact Nat.le_refl _, h.res, h.exn⟩
section
variable {G : Gx} {p : Bool} {b b' b1 b2 : Nat} {ta tb tc : TE} {ds : List Sd} {F : Fd} {E : L2.St → XK} {c : Nat} {R R1 : D → Prop} {R2 : D → D → Prop} {y : D}
/-- f(e), f(e1, e2) of what is not known for certain -/
theorem evs_cl1 (h1 : EvS G p b b1 ta ds R1) (h : ∀ x, R1 x → Cas F [x] c R) (hb : c + b' ≤ b1) : EvS G p b b' (tCl 1 0 (SpD G.K F) (fun vs _ => vs) E (tCons ta tNil) tNil) ds R :=
  (evs_cl (F := F) (gD := fun es _ => es) (fs := []) (eas_cons h1 fun x _ => ea_nil) ea_nil (fun _ _ _ _ _ r _ => r) rfl fun es' ⟨x, r, e, q1, q2⟩ => by
    subst e q2
    have q := h x q1
    exact ⟨rfl, q.n, q.dom, Nat.le_trans (Nat.add_le_add_right q.cost _) hb, fun C x z => absurd z (q.exn C x)⟩).imp fun d ⟨es', ⟨x, r, e, q1, q2⟩, q⟩ => by
    subst e q2
    exact (h x q1).res d q
theorem evs_cl2 (h1 : EvS G p b b1 ta ds R1) (h2 : ∀ x, R1 x → EvD G p b1 b2 tb ds y) (h : ∀ x, R1 x → Cas F [x, y] c R) (hb : c + b' ≤ b2 := by omega) : EvS G p b b' (tCl 2 0 (SpD G.K F) (fun vs _ => vs) E (tCons ta (tCons tb tNil)) tNil) ds R :=
  (evs_cl (F := F) (gD := fun es _ => es) (fs := []) (eas_cons (R2 := fun _ r => r = [y]) h1 fun x hx => ea_cons (h2 x hx) ea_nil) ea_nil (fun _ _ _ _ _ r _ => r) rfl fun es' ⟨x, r, e, q1, q2⟩ => by
    subst e q2
    have q := h x q1
    exact ⟨rfl, q.n, q.dom, Nat.le_trans (Nat.add_le_add_right q.cost _) hb, fun C x z => absurd z (q.exn C x)⟩).imp fun d ⟨es', ⟨x, r, e, q1, q2⟩, q⟩ => by
    subst e q2
    exact (h x q1).res d q
end
end Sh

/-! Sh14: expressions that change a list of our own. -/
namespace Sh
open PySem PySem.Spec PySem.Calls PyProof.Rows L2
/-- te changes our own list at slot i0 -/
def EvX (G : Gx) (i0 : Nat) (b b' : Nat) (te : TE) (ds : List Sd) (R : D → List D → Prop) : Prop :=
  ∀ gs M H σ, G.st gs M b H σ ds → ∀ Q : VK, (∀ v d ys vs a H1, R d ys → σ[i0]? = some (some (.ref a)) → Ext H H1 → Lim b' H1 → RpA G.K (msk M H1) vs ys → Rp G.K (msk M H1) v d → Q v (upd H1 a (.lst vs))) → te σ H Q
theorem RpA.eraseIdx {K : PySem.W.Frag} {H : Hp} : ∀ {vs : List V} {ds : List D} (n : Nat), RpA K H vs ds → RpA K H (vs.eraseIdx n) (ds.eraseIdx n)
  | _, _, _, .nil => by rw [List.eraseIdx_nil, List.eraseIdx_nil]; exact .nil
  | _, _, 0, .cons _ q => q
  | _, _, n + 1, .cons p q => .cons p (RpA.eraseIdx n q)
/-- xs.pop(e), xs our own -/
theorem evx_pop {G : Gx} {i0 b b' : Nat} {ti : TE} {ds : List Sd} {xs : List D} {R1 : Nat → Prop} (hi : ds[i0]? = some (.own xs)) (h : EvS G true b b' ti ds (fun d => ∃ k : Nat, d = .int (k : Int) ∧ R1 k)) (hk : ∀ k, R1 k → k < xs.length) (hl : xs.length ≤ 100000) :
    EvX G i0 b b' (tBM G.K "list" rPopAt (tVar i0) (tCons ti tNil)) ds (fun d ys => ∃ k, R1 k ∧ xs[k]? = some d ∧ ys = xs.eraseIdx k) := fun gs M H σ S Q kk => by
  obtain ⟨a, vs, hσ, m, ha, r, n0⟩ := S.ownL hi
  refine ⟨.ref a, hσ, .inl ⟨rfl, vs, SqL.of ha⟩, ?_⟩
  refine h gs M H σ S _ fun v d H1 rd e l rp => ?_
  obtain ⟨k, rfl, r1⟩ := rd
  cases rp
  have ha' : H1 a = some (.lst vs) := e.keep _ _ ha fun _ z => nomatch z
  have hk' := hk k r1
  have len := r.length
  have hkv : k < vs.length := by omega
  have r2 := r.mono (msk_mono e.toKp)
  obtain ⟨d, hd, rd⟩ := r2.get (i := k) (List.getElem?_eq_getElem hkv)
  refine ⟨a, vs, (k : Int), k, vs[k], rfl, rfl, ha', by omega, by omega, ?_, List.getElem?_eq_getElem hkv, ?_⟩
  · unfold seqIndex?
    have e1 : (if (k : Int) < 0 then (k : Int) + (vs.length : Int) else (k : Int)) = (k : Int) := if_neg (by omega)
    show (if (decide (0 ≤ (if (k : Int) < 0 then (k : Int) + (vs.length : Int) else (k : Int))) && decide ((if (k : Int) < 0 then (k : Int) + (vs.length : Int) else (k : Int)) < (vs.length : Int))) = true then some (if (k : Int) < 0 then (k : Int) + (vs.length : Int) else (k : Int)).toNat else none) = some k
    rw [e1, decide_eq_true (by omega), decide_eq_true (by omega)]
    rfl
  · exact kk _ d _ _ a H1 ⟨k, r1, hd, rfl⟩ hσ e l (r2.eraseIdx k) rd
theorem wipe_get (σ : List (Option V)) (i : Nat) : ∀ vs : List Nat, i ∉ vs → (L2.wipe σ vs)[i]? = σ[i]?
  | [], _ => rfl
  | v :: vs, h => by
    show ((L2.wipe σ vs).set v none)[i]? = σ[i]?
    rw [List.getElem?_set_ne (fun z => h (by rw [z]; exact List.mem_cons_self)), wipe_get σ i vs fun z => h (List.mem_cons_of_mem _ z)]
/-- what a comprehension makes whose items change our own list -/
def EvXO (G : Gx) (i0 : Nat) (b b' : Nat) (te : TE) (ds : List Sd) (R : List D → List D → Prop) : Prop :=
  ∀ gs M H σ, G.st gs M b H σ ds → ∀ Q : VK, (∀ D M' vs xs ys H', R xs ys → G.st gs M' b' H' σ (ds.set i0 (.own ys)) → M' D → ¬ G.M0 D → G.H0 D = none → H' D = some (.lst vs) → RpA G.K (msk M' H') vs xs → Q (.ref D) H') → te σ H Q
theorem evx_lc {G : Gx} {i0 b b1 b' : Nat} {wi : TI} {g : TG} {te : TE} {vs : List Nat} {ds : List Sd} {n : Nat} {it : Nat → D} {ys0 : List D} (c : Nat) (P : Nat → List D → List D → Prop) (hi : EvI G b b1 wi ds n it) (hn : n ≤ 100000) (h0 : ds[i0]? = some (.own ys0)) (hv : i0 ∉ vs) (hp : P 0 [] ys0)
    (hs : ∀ i acc ys, i < n → P i acc ys → ∃ ds'', TgR G.K vs g (it i) (wipeD (ds.set i0 (.own ys)) vs) ds'' ∧ ∀ b0, EvX G i0 (b0 + c) b0 te ds'' (fun d ys' => P (i + 1) (acc ++ [d]) ys'))
    (hm : ∀ i acc ys, P i acc ys → acc.length ≤ i) (hb : b' + n * c ≤ b1) : EvXO G i0 b b' (tLc wi g tYes te vs) ds (P n) := fun gs M H σ S Q k =>
  hi gs M H σ S _ fun J gs' H1 e l hg ok => fun D hD => by
    have S1 : Stt G.K G.H0 G.M0 (gs' ++ gs) M b1 H1 σ ds := (S.step e l).ghosts hg
    have nMD : ¬ M D := fun z => S1.liv D z hD
    obtain ⟨a0, vs0, hσ0, m0, ha0, r0, n00⟩ := S1.ownL h0
    have nDa : a0 ≠ D := ne_of_none ha0 hD
    have st : ∀ b2 Hx vsy ys, Ext H1 Hx → Lim b2 Hx → Hx D ≠ none → RpA G.K (msk (fun a => M a ∨ a = D) Hx) vsy ys → Stt G.K G.H0 G.M0 (gs' ++ gs) (fun a => M a ∨ a = D) b2 (upd Hx a0 (.lst vsy)) σ (ds.set i0 (.own ys)) := fun b2 Hx vsy ys e2 l2 hD2 ry => (S1.grow hD e2 l2 hD2).chg h0 hσ0 ry
    refine ⟨fun i m H => m = n - i ∧ i ≤ n ∧ ∃ acc es Hx vsy ys, H = upd Hx a0 (.lst vsy) ∧ Ext H1 Hx ∧ Lim (b' + (n - i) * c) Hx ∧ Hx D = some (.lst acc) ∧ RpA G.K (msk (fun a => M a ∨ a = D) Hx) acc es ∧ RpA G.K (msk (fun a => M a ∨ a = D) Hx) vsy ys ∧ P i es ys, ⟨n, by omega, Nat.zero_le _, [], [], upd H1 D (.lst []), vs0, ys0, ?_, Ext.new hD, (S1.lim.mono hb).upd (fun _ z => nomatch z), upd_same, .nil, eo_new (H' := H1) hD r0 |>.mono (msk_mono (Ext.refl _).toKp) |> fun q => ?_, hp⟩, ?_⟩
    · funext x
      by_cases hx : x = a0
      · rw [hx, upd_same, upd_ne nDa, ha0]
      · rw [upd_ne hx]
    · refine r0.mono (Kp.sub fun c o h => ?_)
      obtain ⟨h1, h2⟩ := msk_of h
      have nc : c ≠ D := ne_of_none h2 hD
      rw [msk_no fun z => z.elim h1 nc, upd_ne nc]
      exact h2
    rintro i m H2 ⟨rfl, hin, acc, es, Hx, vsy, ys, rfl, e2, l2, hacc, racc, ry, p2⟩
    have S2 := st _ Hx vsy ys e2 l2 (by rw [hacc]; exact fun z => nomatch z) ry
    have hl2 : Lim (b' + (n - i) * c) (upd Hx a0 (.lst vsy)) := l2.upd fun _ z => nomatch z
    have hacc2 : (upd Hx a0 (.lst vsy)) D = some (.lst acc) := by rw [upd_ne (Ne.symm nDa)]; exact hacc
    have ma : (fun a => M a ∨ a = D) a0 := .inl m0
    have mku : msk (fun a => M a ∨ a = D) (upd Hx a0 (.lst vsy)) = msk (fun a => M a ∨ a = D) Hx := msk_upd ma
    by_cases hlt : i < n
    · refine .inr ⟨ok.go i _ _ S2.gh' hlt, fun H => ∃ acc es Hx vsy ys, H = upd Hx a0 (.lst vsy) ∧ Ext H1 Hx ∧ Lim (b' + (n - (i + 1)) * c) Hx ∧ Hx D = some (.lst acc) ∧ RpA G.K (msk (fun a => M a ∨ a = D) Hx) acc es ∧ RpA G.K (msk (fun a => M a ∨ a = D) Hx) vsy ys ∧ P (i + 1) es ys, fun H' z => ⟨n - (i + 1), by omega, rfl, hlt, z⟩, fun x H3 y => ?_⟩
      obtain ⟨x1, x2, x3⟩ := ok.yld i _ _ S2.gh' hlt x H3 y
      obtain ⟨ds'', t1, t2⟩ := hs i es ys hlt p2
      have ec : b' + (n - i) * c = (b' + (n - (i + 1)) * c) + c := by
        have e3 : n - i = (n - (i + 1)) + 1 := by omega
        rw [e3, Nat.add_mul, Nat.one_mul, Nat.add_assoc]
      have S3 := (S2.step x1 (x2 _ hl2)).wipe vs
      rw [ec] at S3
      refine t1 _ _ _ _ _ H3 _ x S3 x3 _ fun σ4 S4 ew => ⟨?_, ?_⟩
      · rw [ew]
        have ww : ∀ ws : List Nat, (∀ v ∈ ws, v ∈ vs) → L2.wipe (L2.wipe σ ws) vs = L2.wipe σ vs := fun ws => by
          induction ws with
          | nil => intro _; rfl
          | cons v ws ih =>
            intro hv
            show L2.wipe ((L2.wipe σ ws).set v none) vs = L2.wipe σ vs
            rw [wipe_in _ _ _ _ (hv v List.mem_cons_self), ih fun u hu => hv u (List.mem_cons_of_mem _ hu)]
        exact ww vs fun _ h => h
      · show te σ4 H3 _
        refine t2 (b' + (n - (i + 1)) * c) _ _ H3 σ4 S4 _ fun v d ys' vs' a H4 rd hσ4 e4 l4 ry' rp => ?_
        have ea : a = a0 := by
          have q1 := wipe_get σ4 i0 vs hv
          have q2 := wipe_get (L2.wipe σ vs) i0 vs hv
          rw [ew, q2, wipe_get σ i0 vs hv, hσ0, hσ4] at q1
          injection q1 with q1
          injection q1 with q1
          injection q1 with q1
          exact q1.symm
        subst ea
        have hacc4 : H4 D = some (.lst acc) := e4.keep _ _ (x1.keep _ _ hacc2 fun _ z => nomatch z) fun _ z => nomatch z
        have hacc5 : (upd H4 a (.lst vs')) D = some (.lst acc) := by rw [upd_ne (Ne.symm nDa)]; exact hacc4
        have e24 := x1.trans e4
        have len : acc.length ≤ n := by
          rw [racc.length]
          exact Nat.le_trans (hm i es ys p2) hin
        -- all but a and D as in H1
        let Hy := upd (upd H4 a (.lst vs0)) D (.lst (acc ++ [v]))
        have kp : Ext H1 Hy := ⟨⟨fun c o hc no => by
            have nc : c ≠ D := ne_of_none hc hD
            show (upd (upd H4 a (.lst vs0)) D (.lst (acc ++ [v]))) c = some o
            rw [upd_ne nc]
            by_cases hca : c = a
            · rw [hca, upd_same, ← hc, hca, ha0]
            · rw [upd_ne hca]
              exact e24.keep c o (by rw [upd_ne hca]; exact e2.keep c o hc no) no, fun c j hc => by
            have nc : c ≠ D := ne_of_none hc hD
            have hca : c ≠ a := fun z => by rw [z, ha0] at hc; unfold PurseO at hc; cases hc
            obtain ⟨j1, hj1⟩ := e2.pz c j hc
            obtain ⟨j2, hj2⟩ := e24.pz c j1 (by rw [upd_ne hca]; exact hj1)
            exact ⟨j2, by show (upd (upd H4 a (.lst vs0)) D (.lst (acc ++ [v]))) c = _; rw [upd_ne nc, upd_ne hca]; exact hj2⟩⟩, fun c hc => by
            show (upd (upd H4 a (.lst vs0)) D (.lst (acc ++ [v]))) c ≠ none
            by_cases nc : c = D
            · rw [nc, upd_same]; exact fun z => nomatch z
            · rw [upd_ne nc]
              by_cases hca : c = a
              · rw [hca, upd_same]; exact fun z => nomatch z
              · rw [upd_ne hca]
                exact e24.dom c (by rw [upd_ne hca]; exact e2.dom c hc)⟩
        have mk : ∀ f : Addr → Prop, (∀ c, (fun a => M a ∨ a = D) c → f c) → msk (fun a => M a ∨ a = D) Hy = msk (fun a => M a ∨ a = D) H4 := fun _ _ => by
          show msk _ (upd (upd H4 a (.lst vs0)) D _) = _
          rw [msk_upd (.inr rfl), msk_upd ma]
        have mk := mk (fun _ => True) fun _ _ => trivial
        have l5 : Lim (b' + (n - (i + 1)) * c) (upd H4 a (.lst vs0)) := l4.upd fun _ z => nomatch z
        have l6 : Lim (b' + (n - (i + 1)) * c) Hy := l5.upd (a := D) (o := .lst (acc ++ [v])) fun _ z => nomatch z
        refine ⟨acc, hacc5, Nat.lt_of_le_of_lt (Nat.le_trans len hn) (by decide), acc ++ [v], es ++ [d], Hy, vs', ys', ?_, kp, l6, upd_same, ?_, ?_, rd⟩
        · funext c
          show (upd (upd H4 a (.lst vs')) D (.lst (acc ++ [v]))) c = (upd (upd (upd H4 a (.lst vs0)) D (.lst (acc ++ [v]))) a (.lst vs')) c
          by_cases hca : c = a
          · rw [hca, upd_same, upd_ne nDa, upd_same]
          · rw [upd_ne hca]
            by_cases nc : c = D
            · rw [nc, upd_same, upd_same]
            · rw [upd_ne nc, upd_ne nc, upd_ne hca, upd_ne hca]
        · rw [mk]
          refine RpA.append ?_ (.cons rp .nil)
          have q := racc
          rw [← mku] at q
          exact q.mono (msk_mono e24.toKp)
        · rw [mk]
          exact ry'
    · have en : i = n := by omega
      subst en
      refine .inl ⟨ok.stop _ _ S2.gh', ?_⟩
      have S2' : Stt G.K G.H0 G.M0 gs (fun a => M a ∨ a = D) b' (upd Hx a0 (.lst vsy)) σ (ds.set i0 (.own ys)) := S2.unghosts.weak (Nat.le_add_right _ _)
      exact k D _ acc es ys _ p2 S2' (.inr rfl) (fun z => nMD (S1.m0 D z)) (S1.ext.free hD) hacc2 (by rw [mku]; exact racc)
/-- return [..] -/
theorem ws_retX {G : Gx} {i0 b b' : Nat} {te : TE} {ds : List Sd} {E : DE} {R : List D → List D → Prop} (h : EvXO G i0 b b' te ds R) (k : ∀ xs ys, R xs ys → E.rt (.lst xs) (ds.set i0 (.own ys)) b') (ho : E.ro2 = 0 := by rfl) : Wt G b (tRet te) ds E := fun gs M H σ S Dn w =>
  h gs M H σ S _ fun D M' vs xs ys H' r S' m n0 hD0 hD rr => by
    have rm : RpA G.K (msk (fun c => G.M0 c ∨ c = D) H') vs xs := rr.mono (msk_sub fun c hc => hc.elim (S'.m0 c) fun z => by rw [z]; exact m)
    exact w.rt M' b' H' σ _ _ _ S' (k xs ys r) (.lst (by rw [msk_no n0]; exact hD) (rm.mono (msk_sub fun c hc => .inl hc))) fun _ => (by rw [ho]; exact ⟨D, vs, xs, rfl, rfl, hD0, hD, rm⟩)
/-- xs[k] = e, xs our own, e not known for certain -/
theorem ws_setO {G : Gx} {b b1 b2 : Nat} {te ti : TE} {ds : List Sd} {R : D → Prop} {E : DE} {i : Nat} {k : Int} {xs : List D} (hi : ds[i]? = some (.own xs)) (h : EvS G true b b1 te ds R) (hk : EvD G true b1 b2 ti ds (.int k)) (h0 : 0 ≤ k) (h1 : k < xs.length) (kk : ∀ d, R d → E.nx (ds.set i (.own (xs.set k.toNat d))) b2) :
    Wt G b (tAsg te (gSub (tVar i) ti rSetA)) ds E := fun gs M H σ S Dn w => by
  refine h gs M H σ S _ fun v d' H1 r e1 l1 rp => ?_
  have S1 := S.step e1 l1
  obtain ⟨a, vs, hσ, m, ha, rr, n0⟩ := S1.ownL hi
  refine ⟨.ref a, hσ, ?_⟩
  refine hk gs M H1 σ S1 _ fun v2 d2 H2 r2 e2 l2 rp2 => ?_
  subst r2
  cases rp2
  have S2 := S1.step e2 l2
  have ha2 : H2 a = some (.lst vs) := e2.keep _ _ ha fun _ z => nomatch z
  have hl : k < vs.length := by rw [rr.length]; exact h1
  exact .inl ⟨a, vs, k, k.toNat, rfl, rfl, ha2, ixN_nn h0 hl, w.nx M b2 _ σ _ (S2.chg hi hσ (RpA.set (rp.mono (msk_mono e2.toKp)) _ (rr.mono (msk_mono e2.toKp)))) (kk d' r)⟩
/-- f(e, ..), e not known for certain, the rest is -/
theorem evs_clH {G : Gx} {p : Bool} {b b' b1 b2 n c : Nat} {ta : TE} {t : TA} {ds : List Sd} {F : Fd} {E : L2.St → XK} {R R1 : D → Prop} {ys : List D} (h1 : EvS G p b b1 ta ds R1) (h2 : ∀ x, R1 x → EaD G p b1 b2 t ds ys) (h : ∀ x, R1 x → Cas F (x :: ys) c R) (hn : ys.length + 1 = n) (hb : c + b' ≤ b2) :
    EvS G p b b' (tCl n 0 (SpD G.K F) (fun vs _ => vs) E (tCons ta t) tNil) ds R :=
  (evs_cl (F := F) (gD := fun es _ => es) (fs := []) (eas_cons (R2 := fun _ r => r = ys) h1 h2) ea_nil (fun _ _ _ _ _ r _ => r) rfl fun es' ⟨x, r, e, q1, q2⟩ => by
    subst e q2
    have q := h x q1
    exact ⟨hn, q.n, q.dom, Nat.le_trans (Nat.add_le_add_right q.cost _) hb, fun C x z => absurd z (q.exn C x)⟩).imp fun d ⟨es', ⟨x, r, e, q1, q2⟩, q⟩ => by
    subst e q2
    exact (h x q1).res d q
end Sh
namespace Sh
open PySem PySem.Spec PySem.Calls PyProof.Rows L2
theorem EvX.imp {G : Gx} {i0 b b' : Nat} {te : TE} {ds : List Sd} {R R' : D → List D → Prop} (h : EvX G i0 b b' te ds R) (i : ∀ d ys, R d ys → R' d ys) : EvX G i0 b b' te ds R' := fun gs M H σ S Q k => h gs M H σ S Q fun v d ys vs a H1 r => k v d ys vs a H1 (i d ys r)
end Sh
namespace Sh
open PySem PySem.Spec PySem.Calls PyProof.Rows L2
theorem g_bm {X : Cx} {K : PySem.W.Frag} {o e : Expr} {es : List Expr} {to : TE} {t : TA} {name : Str} {apos cpos : Pos} {T id : String} {r : V → List V → Hp → VK → Prop} (hK : X.K = K) (pa : PlainAttrs T) (slot : Slot T name id) (hty : typeOf (.builtin id) = pure (.type "method_descriptor")) (hm : MtR X id r) (ho : PE X o to) (ha : PA X (e :: es) t)
    (hbase : attributeBase o name X.env (eval o X.env) = eval o X.env := by rfl)
    (hfew : ((backTo cpos (starEach (e :: es) X.env)).all (fun x => !x.1) && (backToKw cpos (keywordEach [] X.env)).all (fun x => x.1.isSome)
      && decide ((e :: es).length + ([] : List Keyword).length + (if ([] : List Keyword).isEmpty then 0 else 1) < 30)) = true := by rfl)
    (hline : (apos.endLine == cpos.line) = true := by rfl) (hs : starEach (e :: es) X.env = (false, eval e X.env) :: starEach es X.env := by rfl) (hplain : (backTo cpos (starEach es X.env)).any (·.1) = false := by rfl) :
    PE X (.Call (.Attribute o name apos) (e :: es) [] cpos) (tBM K T r to t) := by
  subst hK
  exact pe_bm pa slot hty hm ho ha hbase hfew hline hs hplain
end Sh
namespace Sh
open PySem PySem.Spec PySem.Calls PyProof.Rows L2
theorem Wt.less {G : Gx} {b b' : Nat} {t : TS} {ds : List Sd} {E : DE} (h : Wt G b' t ds E) (hb : b' ≤ b) : Wt G b t ds E := fun gs M H σ S Dn w => h gs M H σ (S.weak hb) Dn w
/-- f(e1, e2, e3), e3 not known for certain -/
theorem evs_cl3 {G : Gx} {p : Bool} {b b' b1 b2 b3 c : Nat} {ta tb tc : TE} {ds : List Sd} {F : Fd} {E : L2.St → XK} {R R3 : D → Prop} {x y : D} (h1 : EvD G p b b1 ta ds x) (h2 : EvD G p b1 b2 tb ds y) (h3 : EvS G p b2 b3 tc ds R3) (h : ∀ z, R3 z → Cas F [x, y, z] c R) (hb : c + b' ≤ b3) :
    EvS G p b b' (tCl 3 0 (SpD G.K F) (fun vs _ => vs) E (tCons ta (tCons tb (tCons tc tNil))) tNil) ds R :=
  (evs_cl (F := F) (gD := fun es _ => es) (fs := []) (eas_cons (R2 := fun _ r => ∃ z, r = [y, z] ∧ R3 z) h1 fun _ _ => EvA.imp (eas_cons (R2 := fun _ r => ∃ z, r = [z] ∧ R3 z) h2 fun _ _ => EvA.imp (eas_cons (R2 := fun _ r => r = []) h3 fun _ _ => ea_nil) fun es ⟨z, r, e, q1, q2⟩ => ⟨z, by rw [e, q2], q1⟩) fun es ⟨z, r, e, q1, w, q2, q3⟩ => ⟨w, by rw [e, q1, q2], q3⟩) ea_nil (fun _ _ _ _ _ r _ => r) rfl fun es' ⟨x', r, e, q1, z, q2, q3⟩ => by
    subst e q1 q2
    have q := h z q3
    exact ⟨rfl, q.n, q.dom, Nat.le_trans (Nat.add_le_add_right q.cost _) hb, fun C x z => absurd z (q.exn C x)⟩).imp fun d ⟨es', ⟨x', r, e, q1, z, q2, q3⟩, q⟩ => by
    subst e q1 q2
    exact (h z q3).res d q
theorem Cas.imp {F : Fd} {es : List D} {c : Nat} {R R' : D → Prop} (h : Cas F es c R) (i : ∀ d, R d → R' d) : Cas F es c R' := ⟨h.n, h.dom, h.cost, fun d q => i d (h.res d q), h.exn⟩
end Sh
namespace Sh
open PySem PySem.Spec PySem.Calls PyProof.Rows L2
theorem evs_clA {G : Gx} {p : Bool} {b b' b1 n c : Nat} {t : TA} {ds : List Sd} {F : Fd} {E : L2.St → XK} {R : D → Prop} {Ra : List D → Prop} (ha : EvA G p b b1 t ds Ra) (h : ∀ es, Ra es → es.length = n ∧ Cas F es c R) (hb : c + b' ≤ b1) : EvS G p b b' (tCl n 0 (SpD G.K F) (fun vs _ => vs) E t tNil) ds R :=
  (evs_cl (F := F) (gD := fun es _ => es) (fs := []) ha ea_nil (fun _ _ _ _ _ r _ => r) rfl fun es q => by
    obtain ⟨h1, h2⟩ := h es q
    exact ⟨h1, h2.n, h2.dom, Nat.le_trans (Nat.add_le_add_right h2.cost _) hb, fun C x z => absurd z (h2.exn C x)⟩).imp fun d ⟨es, q1, q2⟩ => (h es q1).2.res d q2
/-- arguments of which the last is not known for certain -/
theorem eas_one {G : Gx} {p : Bool} {b b1 : Nat} {te : TE} {ds : List Sd} {R : D → Prop} (h : EvS G p b b1 te ds R) : EvA G p b b1 (tCons te tNil) ds (fun es => ∃ z, es = [z] ∧ R z) := EvA.imp (eas_cons (R2 := fun _ r => r = []) h fun _ _ => ea_nil) fun es ⟨z, r, e, q1, q2⟩ => ⟨z, by rw [e, q2], q1⟩
theorem eas_det {G : Gx} {p : Bool} {b b1 b2 : Nat} {te : TE} {t : TA} {ds : List Sd} {x : D} {R : List D → Prop} (h : EvD G p b b1 te ds x) (h2 : EvA G p b1 b2 t ds R) : EvA G p b b2 (tCons te t) ds (fun es => ∃ r, es = x :: r ∧ R r) := EvA.imp (eas_cons (R2 := fun _ r => R r) h fun _ _ => h2) fun es ⟨z, r, e, q1, q2⟩ => ⟨r, by rw [e, q1], q2⟩
end Sh
namespace Sh
open PySem PySem.Spec PySem.Calls PyProof.Rows L2
/-- what holds behind a statement, said anew -/
theorem w_mid {G : Gx} {b : Nat} {t : TS} {ds : List Sd} {E : DE} (I : List Sd → Nat → Prop) (h : Wt G b t ds { E with nx := I }) (k : ∀ ds' b', I ds' b' → E.nx ds' b') : Wt G b t ds E := h.imp k (fun _ _ _ h => h) (fun _ _ h => h) (fun _ _ h => h) (fun h => h)
end Sh

/-! Sh15: t[::-1] of a tuple. -/
namespace Sh
open PySem PySem.Spec PySem.Calls PyProof.Rows L2
section
variable {prog : Program} {w : World} {A : Around} {E : Value → Shared → Prop} {s : Shared}
theorem revAdjust (n : Nat) : Builtin.Slice.sliceAdjust none none (-1) (n : Int) = ((n : Int) - 1, -1) := by
  unfold Builtin.Slice.sliceAdjust
  have h1 : ((-1 : Int) < 0) := by decide
  simp only [h1, if_true]
theorem revPlaces (n : Nat) : Builtin.Slice.slicePlaces ((n : Int) - 1) (-1) (-1) = n := by
  unfold Builtin.Slice.slicePlaces
  rw [if_neg (by decide)]
  split
  · have e : ((n : Int) - 1 - -1 - 1) / - -1 + 1 = (n : Int) := by
      rw [show -(-1 : Int) = 1 from rfl, Int.ediv_one]
      omega
    rw [e]
    exact Int.toNat_natCast n
  · have : n = 0 := by omega
    subst this
    rfl
theorem fm_congr {α β : Type} {f g : α → Option β} : ∀ {l : List α}, (∀ x ∈ l, f x = g x) → l.filterMap f = l.filterMap g
  | [], _ => rfl
  | x :: l, h => by
    rw [List.filterMap_cons, List.filterMap_cons, h x List.mem_cons_self, fm_congr fun y hy => h y (List.mem_cons_of_mem _ hy)]
theorem revPick (xs : List Value) : ((List.range xs.length).filterMap fun (m : Nat) => xs.toArray[(((xs.length : Int) - 1) + (m : Int) * (-1)).toNat]?).toArray = xs.reverse.toArray := by
  have e := PySem.W.krv_all xs.toArray
  have e1 : (List.range xs.length).map (fun k => xs.length - 1 - k) = (List.range xs.length).reverse := PySem.W.krv_range xs.length
  have e2 : (fun (m : Nat) => xs.toArray[(((xs.length : Int) - 1) + (m : Int) * (-1)).toNat]?) = fun m => if m < xs.length then xs.toArray[xs.length - 1 - m]? else xs.toArray[(((xs.length : Int) - 1) + (m : Int) * (-1)).toNat]? := by
    funext m
    by_cases h : m < xs.length
    · rw [if_pos h]
      congr 1
      omega
    · rw [if_neg h]
  congr 1
  rw [e2]
  have e3 : (List.range xs.length).filterMap (fun m => if m < xs.length then xs.toArray[xs.length - 1 - m]? else xs.toArray[(((xs.length : Int) - 1) + (m : Int) * (-1)).toNat]?) = (List.range xs.length).filterMap fun m => xs.toArray[xs.length - 1 - m]? := by
    refine fm_congr fun m hm => ?_
    rw [if_pos (List.mem_range.mp hm)]
  rw [e3]
  have e4 : (List.range xs.length).filterMap (fun m => xs.toArray[xs.length - 1 - m]?) = ((List.range xs.length).map (fun k => xs.length - 1 - k)).filterMap (xs.toArray[·]?) := by
    rw [List.filterMap_map]
    rfl
  rw [e4, e1, List.filterMap_reverse]
  rw [List.size_toArray] at e
  rw [e]
theorem getItem_tuple_rev {t sl : Addr} {items : List Value} {vl vu vs : Value} {Q : Value → Shared → Prop} (ht : IsTup s.heap t items.toArray) (hs : s.heap.IsSliceOf sl vl vu vs) (pl : IsPart vl none) (pu : IsPart vu none) (ps : IsPart vs (some (-1)))
    (h : Q (.ref s.heap.objs.size) { s with heap := s.heap.push { cls := .type "tuple", data := .seq items.reverse.toArray } })
    (hsz : items.length ≤ sizeLine) : wpAny (model prog w) A (getItem (.ref t) (.ref sl)) Q E s := by
  obtain ⟨os, hos, hcs, hds⟩ := id hs
  have hTs : s.TypeIs (.ref sl) "slice" := ⟨os, hos, hcs⟩
  unfold getItem
  try with_reducible refine wpAny_holding ?_
  first | refine wpAny_bind (wpAny_pure ?_) | skip
  refine wpAny_bind (wpAny_sequenceKey ht.typeIs (by decide) ?_)
  refine wpAny_bind (wpAny_callSpecial?_slot (name := Str.ofString "__getitem__") ht.typeIs PyProof.Rows.slot_tuple_getitem
    (wpAny_call_entry PyProof.Rows.slot_tuple_getitem ht.typeIs entry_tuple_getitem ?_ (args_tuple_getitem _ _)))
  show wpAny _ _ (Builtin.Tuple.tupleItemsOf (.ref t) >>= _) _ _ s
  refine wpAny_bind (tupleItemsOf_ ht ?_)
  refine wpAny_bind (wpAny_typeOf hTs ?_)
  rw [if_pos (by decide)]
  have app : ∀ (Q' : Int × Int × Nat → Shared → Prop), Q' ((items.length : Int) - 1, -1, items.length) s → wpAny (model prog w) A.in1 (Builtin.Slice.sliceApplied (.ref sl) (pure ((items.toArray.size : Nat) : Int))) Q' E s := fun Q' h' => by
    unfold Builtin.Slice.sliceApplied Builtin.Slice.sliceFields
    refine wpAny_bind (wpAny_bind (wpAny_field hos hds (x := vl) rfl (wpAny_bind (wpAny_field hos hds (x := vu) rfl (wpAny_bind (wpAny_field hos hds (x := vs) rfl (wpAny_pure ?_)))))))
    refine wpAny_bind (HT.slicePart_ ps ?_)
    show wpAny _ _ (if ((-1 : Int) == 0) = true then _ else _) _ _ s
    rw [if_neg (by decide)]
    refine wpAny_bind (HT.slicePart_ pl (wpAny_bind (HT.slicePart_ pu (wpAny_bind (wpAny_pure ?_)))))
    show wpAny _ _ (match Builtin.Slice.sliceAdjust none none (-1) ((items.toArray.size : Nat) : Int) with | (lo, hi) => pure (lo, (-1 : Int), Builtin.Slice.slicePlaces lo hi (-1))) _ _ s
    rw [revAdjust]
    show wpAny _ _ (pure (((items.toArray.size : Nat) : Int) - 1, (-1 : Int), Builtin.Slice.slicePlaces (((items.toArray.size : Nat) : Int) - 1) (-1) (-1))) _ _ s
    rw [revPlaces, List.size_toArray]
    exact wpAny_pure h'
  refine wpAny_bind (app _ ?_)
  have hno : ¬ ((((items.length : Int) - 1) == 0 && (-1 : Int) == 1 && items.length == items.toArray.size) = true) := by
    intro q
    rw [Bool.and_eq_true, Bool.and_eq_true] at q
    exact absurd q.1.2 (by decide)
  show wpAny _ _ (if (((items.length : Int) - 1) == 0 && (-1 : Int) == 1 && items.length == items.toArray.size) = true then _ else _) _ _ s
  rw [if_neg hno, revPick]
  have htake : sizeOk (.seq items.reverse.toArray) := by
    show items.reverse.toArray.size ≤ sizeLine
    rw [List.size_toArray, List.length_reverse]
    exact hsz
  first
    | exact wpAny_bind (m := Builtin.Tuple.tupleExact _) (wpAny_newObj_type (wpAny_pure ⟨_, rfl, wpAny_pure h⟩) htake)
    | exact wpAny_bind (m := Builtin.Tuple.tupleExact _) (wpAny_newObj_type (wpAny_bind (wpAny_pure (wpAny_pure ⟨_, rfl, wpAny_pure h⟩))) htake)
    | exact wpAny_bind (wpAny_bind (m := Builtin.Tuple.tupleExact _) (wpAny_newObj_type (wpAny_pure (wpAny_pure ⟨_, rfl, wpAny_pure h⟩)) htake))
    | exact wpAny_bind (wpAny_bind (m := Builtin.Tuple.tupleExact _) (wpAny_newObj_type (wpAny_pure ⟨_, rfl, wpAny_pure h⟩) htake))
end
/-- x[::-1], a list or a tuple -/
def tRevA (K : PySem.W.Frag) (te : TE) : TE := fun σ H Q => te σ H fun x H1 => ∃ a xs, x = .ref a ∧ ((SqT K H1 a xs ∧ ∀ p, H1 p = none → Q (.ref p) (upd H1 p (.tup xs.reverse))))
theorem g_rev {X : Cx} {K : PySem.W.Frag} (hK : X.K = K) {e : Expr} {te : TE} {k : Nat} {p1 p2 p3 pos : Pos} (he : PE X e te) : PE X (.Subscript e (.Slice none none (some (.UnaryOp .USub (.Constant (.int 1) k p1) p2)) p3) pos) (tRevA K te) := by
  subst hK
  refine ⟨fun pins s σ H Q I h => ?_⟩
  refine Subscript_ (thn (he.run pins s σ H _ I h) fun v s1 ⟨x, H1, I1, r1, q1⟩ => ?_)
  obtain ⟨a, xs, ex, hx, q⟩ := q1
  subst ex
  cases r1
  have hst : PO X (some (.UnaryOp .USub (.Constant (.int 1) k p1) p2)) (tPart (tUn (rU fun i => .int (-i)) (tC (.int 1)))) := po_some (pe_un un_neg pe_int)
  refine wpAny_Slice (thn (po_none.run pins s1 σ H1 (fun o H2 => o = none ∧ H2 = H1) I1 ⟨rfl, rfl⟩) fun vl s2 ⟨l, H2, I2, pl, el, e2⟩ => ?_)
  subst el e2
  refine thn (po_none.run pins s2 σ H2 (fun o H3 => o = none ∧ H3 = H2) I2 ⟨rfl, rfl⟩) fun vu s3 ⟨u, H3, I3, pu, eu, e3⟩ => ?_
  subst eu e3
  refine thn (hst.run pins s3 σ H3 (fun o H4 => o = some (-1) ∧ H4 = H3) I3 ⟨1, rfl, -1, rfl, rfl, rfl⟩) fun vs s4 ⟨o, H4, I4, ps, eo, e4⟩ => ?_
  subst eo e4
  have I5 : Inv X pins σ H4 { s4 with heap := s4.heap.push { cls := .type "slice", data := .fields #[vl, vu, vs] } } := I4.kept (t' := s4.toks) fun b ob q => Heap.get?_push_of_some _ q
  obtain ⟨its, r, ht, hz⟩ := I5.tuple hx
  have hlen := r.length
  show wpAny (model X.prog X.w) X.A (subscriptTail e (.Slice none none (some (.UnaryOp .USub (.Constant (.int 1) k p1) p2)) p3) (.ref a) (.ref s4.heap.objs.size)) (EP X pins σ Q) X.xe { s4 with heap := s4.heap.push { cls := .type "slice", data := .fields #[vl, vu, vs] } }
  refine tail_any (ops := [.ref a, .ref s4.heap.objs.size]) ht.typeIs (PyProof.Rows.slot_tuple_getitem.lookup) ?_ (by with_unfolding_all rfl)
  refine getItem_tuple_rev ht (Heap.IsSliceOf.new _ vl vu vs) pl pu ps ?_ (by omega)
  refine ⟨.ref _, _, I5.laid (t' := s4.toks) (o := .tup xs.reverse) (fun b ob q => Heap.get?_push_of_some _ q) (Nat.le_refl _) ?_, rfl, q _ (I5.hok.fresh (Nat.le_refl _))⟩
  exact ⟨by rw [List.length_reverse]; exact hz, _, r.reverse, IsTup.new _ _⟩
theorem RpA.reverse {K : PySem.W.Frag} {H : Hp} : ∀ {vs : List V} {ds : List D}, RpA K H vs ds → RpA K H vs.reverse ds.reverse
  | _, _, .nil => .nil
  | _, _, .cons p q => by
    rw [List.reverse_cons, List.reverse_cons]
    exact (RpA.reverse q).append (.cons p .nil)
theorem ev_rev {G : Gx} {p : Bool} {b b' : Nat} {te : TE} {ds : List Sd} {xs : List D} (h : EvD G p b b' te ds (.tup xs)) : EvD G p b b' (tRevA G.K te) ds (.tup xs.reverse) := fun gs M H σ S Q k =>
  h gs M H σ S _ fun v d H' r e l rp => by
    subst r
    cases rp with
    | tup hs ha => exact ⟨_, _, rfl, sqt_unm hs, fun q hq => k _ _ _ rfl (e.trans (Ext.new hq)) (l.upd fun _ z => nomatch z) (new_tup ((S.step e l).mm p) hq (RpA.reverse ha))⟩
end Sh

/-! Sh16: defs with keyword-only defaults; constants that are tuples. -/
namespace Sh
open PySem PySem.Spec PySem.Calls PyProof.Rows L2
section
variable {K : PySem.W.Frag} {x qual : Str} {params : Arguments} {body : List Stmt} {scope : Scope} {kws : List (Str × V)} {f : Addr} {fd : FuncData} {ps : List Str}
/-- f(e, .., k = v): every parameter is written -/
theorem Kb.kw (F : FunD K x qual params body scope [] kws f fd) (n : Nat) (ks : List Str)
    (h : ∀ (kV doc pm : Value) (an : Option Addr) (cdv ct : Value) (us ws : List Value), us.length = n → ws.length = ks.length → bindArgs (PySem.W.fnOf x qual params body scope .none kV doc pm an cdv ct) ⟨us, ks.zip ws⟩ = pure (ps.zip (us ++ ws))) : Kb K fd ps n ks (fun vs zs => vs ++ zs) := by
  obtain ⟨oc, od, dV, kV, doc, pm, an, cdv, ct, osl, rfl, lk, hcd, hD, hK⟩ := F.ex
  rcases hD with ⟨_, rfl⟩ | ⟨e, _⟩
  · exact ⟨fun s us ws vs zs X r rz l1 l2 => ⟨us ++ ws, r.append rz, .of_eq (h kV doc pm an cdv ct us ws (by rw [← r.length, l1]) (by rw [← rz.length, l2]))⟩⟩
  · exact absurd rfl e
/-- f(e, ..): the keyword-only ones lack -/
theorem Kb.dflt (F : FunD K x qual params body scope [] kws f fd) (n : Nat) (hk : kws ≠ []) (hn : n + kws.length = ps.length)
    (h : ∀ (D : Addr) (doc pm : Value) (an : Option Addr) (cdv ct : Value) (us ks : List Value), us.length = n → ks.length = kws.length →
      KwChain D ((kws.map (·.1)).zip ks) (bindArgs (PySem.W.fnOf x qual params body scope .none (.ref D) doc pm an cdv ct) ⟨us, []⟩) (ps.zip (us ++ ks))) : Kb K fd ps n [] (fun vs _ => vs ++ kws.map (·.2)) := by
  obtain ⟨ds, r1, b⟩ := F.binds0 n hk hn h
  refine ⟨fun s us ws vs zs X r rz l1 l2 => ?_⟩
  cases zs with
  | cons _ _ => cases l2
  | nil =>
    cases rz
    refine ⟨us ++ ds, r.append r1, b s us X ?_⟩
    rw [List.length_append, ← r.length, ← r1.length, List.length_map, l1, hn]
/-- what stands behind the top of such a def -/
theorem fund_mk {oc kV doc pm cdv ct : Value} {od an : Option Addr} {osl : Array (Option Value)} {D : Addr} (l : K.lookup f = some ⟨oc, od, .func (PySem.W.fnOf x qual params body scope .none (.ref D) doc pm an cdv ct), osl⟩) (c : PySem.W.codeIn K cdv qual = true) (kp : PySem.W.keepIn K (.ref f) = true)
    (h : ∀ q ∈ kws, ∃ u, PySem.W.nsIn K D q.1 = some (some u) ∧ RelV q.2 u) : FunD K x qual params body scope [] kws f (PySem.W.fnOf x qual params body scope .none (.ref D) doc pm an cdv ct) :=
  ⟨⟨oc, od, .none, .ref D, doc, pm, an, cdv, ct, osl, rfl, l, c, .inl ⟨rfl, rfl⟩, .inr ⟨D, rfl, h⟩⟩, kp⟩
/-- a tuple of numbers that stands in the written part -/
theorem ktup_ints {a : Addr} {dd : Option Addr} {its : Array Value} {n : Nat} {sl : Array (Option Value)} {ns : List Int} (l : K.lookup a = some ⟨.type "tuple", dd, .seq its n, sl⟩) (hz : its.size ≤ 100000) (hi : IntsAre its.toList ns) (H : Hp) : Rp K H (.ref a) (.tup (ns.map D.int)) := by
  have rv : ∀ {vs : List Value} {ns : List Int}, IntsAre vs ns → Vals (ns.map V.int) vs := fun h => vals_ints h
  have ra : ∀ ns : List Int, RpA K H (ns.map V.int) (ns.map D.int) := fun ns => by
    induction ns with
    | nil => exact .nil
    | cons n ns ih => exact .cons (.int n) ih
  exact .tup (.inr ⟨_, its, n, l, rfl, rfl, Nat.le_trans hz (by decide), rv hi⟩) (ra ns)
end
section
variable {G : Gx} {p : Bool} {b b' b1 b2 c : Nat} {t tk : TA} {ds : List Sd} {F : Fd} {n m : Nat} {E : L2.St → XK} {es fs : List D} {z : D} {R : D → Prop}
/-- f(e, .., k = v) -/
theorem ev_calK (ha : EaD G p b b1 t ds es) (hk : EaD G p b1 b2 tk ds fs) (h : Cal F (es ++ fs) z) (hn : es.length = n) (hm : fs.length = m) : EvD G p b b2 (tCl n m (SpD G.K F) (fun vs zs => vs ++ zs) E t tk) ds z :=
  (evs_cl (F := F) (gD := fun es fs => es ++ fs) ha hk (fun _ _ _ _ _ r q => r.append q) hm fun es' e => by
    subst e
    exact ⟨hn, h.n, h.dom, by rw [h.cost, Nat.zero_add]; exact Nat.le_refl _, fun C x q => absurd q (h.exn C x)⟩).imp fun d ⟨es', e, q⟩ => by
    subst e
    exact h.res d q
/-- f(e, ..), the rest by default -/
theorem ev_calD {vz : List V} {dz : List D} (hz : ∀ H : Hp, RpA G.K H vz dz) (ha : EaD G p b b1 t ds es) (h : Cal F (es ++ dz) z) (hn : es.length = n) : EvD G p b b1 (tCl n 0 (SpD G.K F) (fun vs _ => vs ++ vz) E t tNil) ds z :=
  (evs_cl (F := F) (gD := fun es _ => es ++ dz) (fs := []) ha ea_nil (fun H _ _ _ _ r _ => r.append (hz H)) rfl fun es' e => by
    subst e
    exact ⟨hn, h.n, h.dom, by rw [h.cost, Nat.zero_add]; exact Nat.le_refl _, fun C x q => absurd q (h.exn C x)⟩).imp fun d ⟨es', e, q⟩ => by
    subst e
    exact h.res d q
end
end Sh
namespace Sh
open PySem PySem.Spec PySem.Calls PyProof.Rows L2
theorem g_lst {X : Cx} {K : PySem.W.Frag} (hK : X.K = K) {es : List Expr} {k : Nat} {t : TGs} {n : Nat} {pos : Pos} (hc : X.calm = true) (h : PGs X es t)
    (hn : (assignEach es X.env).length = n := by rfl) (hst : (assignEach es X.env).findIdx? (·.1) = none := by rfl) : PG X (.Tuple es k pos) (gLst K n t) := by subst hK; exact pg_lst hc h hn hst
/-- a list's items -/
theorem tg_lst {K : PySem.W.Frag} {vs : List Nat} {t : TGs} {es : List D} {ds ds1 : List Sd} {n : Nat} (h : TgsR K vs t es ds ds1) (hl : es.length = n := by rfl) : TgR K vs (gLst K n t) (.lst es) ds ds1 := fun H0 M0 gs M b H σ v S r Q k => by
  cases r with
  | lst hs ha => exact ⟨_, _, rfl, SqL.of (msk_of hs).2, by rw [ha.length, hl], h H0 M0 gs M b H σ _ S ha Q k⟩
end Sh

/-! Sh17: comprehensions with two fors. -/
namespace Sh
open PySem PySem.Spec PySem.Calls PyProof.Rows L2
/-- a masked object that no slot owns is changed -/
theorem Stt.updM {K : PySem.W.Frag} {H0 H : Hp} {M0 M : Addr → Prop} {b : Nat} {σ : List (Option V)} {ds : List Sd} {gs : List (V × D)} (S : Stt K H0 M0 gs M b H σ ds) {D : Addr} {o : HO} (m : M D) (n0 : ¬ M0 D) (ho : ∀ φ, o ≠ .ext φ)
    (hno : ∀ j, ¬ At σ ds j D) : Stt K H0 M0 gs M b (upd H D o) σ ds := by
  have hm : msk M (upd H D o) = msk M H := msk_upd m
  refine ⟨S.ext.mut (S.new D m n0), S.m0, S.new, fun a h => ?_, S.lim.upd ho, S.len, fun j s d h1 h2 => ?_, S.inj, S.ownNew, fun q hq => by rw [hm]; exact S.gh q hq⟩
  · by_cases e : a = D
    · rw [e, upd_same]; exact fun z => nomatch z
    · rw [upd_ne e]; exact S.liv a h
  · refine (S.sl j s d h1 h2).chg (by rw [hm]; exact Kp.refl _) (fun _ _ m => m) fun a u ha hu _ => ?_
    rw [upd_ne fun z => hno j ⟨s, d, h1, h2, by rw [← z]; exact ha⟩]
    exact hu
def flat2 (m : Nat → Nat) (kp : Nat → Nat → Bool) (f : Nat → Nat → D) (i : Nat) : List D := (List.range i).flatMap fun i => ((List.range (m i)).filter (kp i)).map (f i)
theorem flat2_step (m : Nat → Nat) (kp : Nat → Nat → Bool) (f : Nat → Nat → D) (i : Nat) : flat2 m kp f (i + 1) = flat2 m kp f i ++ ((List.range (m i)).filter (kp i)).map (f i) := by
  unfold flat2
  rw [List.range_succ, List.flatMap_append]
  simp
theorem eo_lc2 {G : Gx} {b b' : Nat} {wi wi1 : TI} {g g1 : TG} {tt1 : TT} {te : TE} {vs vs1 : List Nat} {ds : List Sd} {n : Nat} {it : Nat → D} (m : Nat → Nat) (it1 : Nat → Nat → D) (kp : Nat → Nat → Bool) (f : Nat → Nat → D) (hi : EvI G b b' wi ds n it)
    (hlen : ∀ i j, i < n → j ≤ m i → (flat2 m kp f i ++ ((List.range j).filter (kp i)).map (f i)).length ≤ 100000)
    (hs : ∀ i, i < n → ∃ ds'', TgR G.K vs g (it i) (wipeD ds vs) ds'' ∧ (∀ s ∈ ds'', isOwn s = false) ∧ (∀ b0, EvI G b0 b0 wi1 ds'' (m i) (it1 i)) ∧ ∀ j, j < m i → ∃ ds3, TgR G.K vs1 g1 (it1 i j) (wipeD ds'' vs1) ds3 ∧ ∀ b0, EtD G b0 b0 tt1 ds3 (kp i j) ∧ (kp i j = true → EvD G true b0 b0 te ds3 (f i j))) :
    EoD G b b' (tLc2 wi g tYes wi1 g1 tt1 te vs vs1) ds (flat2 m kp f n) := fun gs M H σ S Q k =>
  hi gs M H σ S _ fun J gs' H1 e l hg ok => fun D hD => by
    have S1 : Stt G.K G.H0 G.M0 (gs' ++ gs) M b' H1 σ ds := (S.step e l).ghosts hg
    have nMD : ¬ M D := fun z => S1.liv D z hD
    have ww : ∀ (σ : List (Option V)) (vs : List Nat), L2.wipe (L2.wipe σ vs) vs = L2.wipe σ vs := fun σ vs => by
      have main : ∀ ws : List Nat, (∀ v ∈ ws, v ∈ vs) → L2.wipe (L2.wipe σ ws) vs = L2.wipe σ vs := fun ws => by
        induction ws with
        | nil => intro _; rfl
        | cons v ws ih =>
          intro hv
          show L2.wipe ((L2.wipe σ ws).set v none) vs = L2.wipe σ vs
          rw [wipe_in _ _ _ _ (hv v List.mem_cons_self), ih fun u hu => hv u (List.mem_cons_of_mem _ hu)]
      exact main vs fun _ h => h
    refine ⟨fun i q H => q = n - i ∧ i ≤ n ∧ ∃ acc, Ext H1 H ∧ Lim b' H ∧ H D = some (.lst acc) ∧ RpA G.K (msk (fun a => M a ∨ a = D) H) acc (flat2 m kp f i), ⟨n, by omega, Nat.zero_le _, [], Ext.new hD, S1.lim.upd (fun _ z => nomatch z), upd_same, .nil⟩, ?_⟩
    rintro i q H2 ⟨rfl, hin, acc, e2, l2, hacc, racc⟩
    have S2 : Stt G.K G.H0 G.M0 (gs' ++ gs) (fun a => M a ∨ a = D) b' H2 σ ds := S1.grow hD e2 l2 (by rw [hacc]; exact fun z => nomatch z)
    by_cases hlt : i < n
    · refine .inr ⟨ok.go i _ H2 S2.gh' hlt, fun H => ∃ acc, Ext H1 H ∧ Lim b' H ∧ H D = some (.lst acc) ∧ RpA G.K (msk (fun a => M a ∨ a = D) H) acc (flat2 m kp f (i + 1)), fun H' z => ⟨n - (i + 1), by omega, rfl, hlt, z⟩, fun x H3 y => ?_⟩
      obtain ⟨x1, x2, x3⟩ := ok.yld i _ H2 S2.gh' hlt x H3 y
      obtain ⟨ds'', t1, hno, hi1, t2⟩ := hs i hlt
      have S3 := (S2.step x1 (x2 _ S2.lim)).wipe vs
      refine t1 _ _ _ _ _ H3 _ x S3 x3 _ fun σ4 S4 ew => ⟨by rw [ew]; exact ww σ vs, ?_⟩
      show wi1 σ4 H3 _
      refine hi1 b' _ _ H3 σ4 S4 _ fun J1 gs1 H4 e4 l4 hg1 ok1 => ?_
      have S5 : Stt G.K G.H0 G.M0 (gs1 ++ (gs' ++ gs)) (fun a => M a ∨ a = D) b' H4 σ4 ds'' := (S4.step e4 l4).ghosts hg1
      have e14 : Ext H1 H4 := (e2.trans x1).trans e4
      have hacc4 : H4 D = some (.lst acc) := e4.keep _ _ (x1.keep _ _ hacc fun _ z => nomatch z) fun _ z => nomatch z
      have racc4 := (racc.mono (msk_mono x1.toKp)).mono (msk_mono e4.toKp)
      have hnoD : ∀ j, ¬ At σ4 ds'' j D := fun j ⟨_, s, _, h2, h3⟩ => by have q := hno s (List.mem_of_getElem? h2); rw [adr_own h3] at q; cases q
      refine ⟨fun j q H => q = m i - j ∧ j ≤ m i ∧ ∃ acc, Stt G.K G.H0 G.M0 (gs1 ++ (gs' ++ gs)) (fun a => M a ∨ a = D) b' H σ4 ds'' ∧ Ext H1 H ∧ H D = some (.lst acc) ∧ RpA G.K (msk (fun a => M a ∨ a = D) H) acc (flat2 m kp f i ++ ((List.range j).filter (kp i)).map (f i)), ⟨m i, by omega, Nat.zero_le _, acc, S5, e14, hacc4, by simpa using racc4⟩, ?_⟩
      rintro j q H5 ⟨rfl, hjm, acc5, S6, e5, hacc5, racc5⟩
      by_cases hj : j < m i
      · refine .inr ⟨ok1.go j _ H5 S6.gh' hj, fun H => ∃ acc, Stt G.K G.H0 G.M0 (gs1 ++ (gs' ++ gs)) (fun a => M a ∨ a = D) b' H σ4 ds'' ∧ Ext H1 H ∧ H D = some (.lst acc) ∧ RpA G.K (msk (fun a => M a ∨ a = D) H) acc (flat2 m kp f i ++ ((List.range (j + 1)).filter (kp i)).map (f i)), fun H' z => ⟨m i - (j + 1), by omega, rfl, hj, z⟩, fun x' H6 y' => ?_⟩
        obtain ⟨z1, z2, z3⟩ := ok1.yld j _ H5 S6.gh' hj x' H6 y'
        obtain ⟨ds3, u1, u2⟩ := t2 j hj
        have S7 := (S6.step z1 (z2 _ S6.lim)).wipe vs1
        refine u1 _ _ _ _ _ H6 _ x' S7 z3 _ fun σ8 S8 ew8 => ⟨by rw [ew8]; exact ww σ4 vs1, ?_⟩
        obtain ⟨q1, q2⟩ := u2 b'
        refine q1 _ _ H6 σ8 S8 _ fun kp' H7 r7 e7 l7 => ?_
        subst r7
        have er : (List.range (j + 1)).filter (kp i) = (List.range j).filter (kp i) ++ if kp i j = true then [j] else [] := by
          rw [List.range_succ, List.filter_append]
          cases hkp : kp i j <;> simp [hkp]
        have e57 := z1.trans e7
        have hacc7 : H7 D = some (.lst acc5) := e57.keep _ _ hacc5 fun _ z => nomatch z
        have racc7 := racc5.mono (msk_mono e57.toKp)
        cases hkp : kp i j with
        | false =>
          show ∃ acc, _
          refine ⟨acc5, S6.step e57 l7, e5.trans e57, hacc7, ?_⟩
          rw [er, hkp]
          simpa using racc7
        | true =>
          show te σ8 H7 _
          refine q2 hkp _ _ H7 σ8 (S8.step e7 l7) _ fun v d H8 r8 e8 l8 rp8 => ?_
          subst r8
          have e58 := e57.trans e8
          have hacc8 : H8 D = some (.lst acc5) := e8.keep _ _ hacc7 fun _ z => nomatch z
          have len : acc5.length ≤ 100000 := by
            rw [racc5.length]
            exact hlen i j hlt hjm
          have S9 := (S6.step e58 l8).updM (D := D) (o := .lst (acc5 ++ [v])) (.inr rfl) (fun z => nMD (S1.m0 D z)) (fun _ z => nomatch z) hnoD
          refine ⟨acc5, hacc8, Nat.lt_of_le_of_lt len (by decide), acc5 ++ [v], S9, (e5.trans e58).mut hD, upd_same, ?_⟩
          rw [er, hkp, msk_upd (.inr rfl), if_pos rfl, List.map_append, ← List.append_assoc]
          exact (racc7.mono (msk_mono e8.toKp)).append (.cons rp8 .nil)
      · have en : j = m i := by omega
        subst en
        refine .inl ⟨ok1.stop _ H5 S6.gh', acc5, e5, S6.lim, hacc5, ?_⟩
        rw [flat2_step]
        exact racc5
    · have en : i = n := by omega
      subst en
      exact .inl ⟨ok.stop _ H2 S2.gh', k D acc _ H2 rfl (e.trans e2) l2 (e.free hD) hacc racc⟩
end Sh

/-! Sh18: stores to slices, extend. -/
namespace Sh
open PySem PySem.Spec PySem.Calls PyProof.Rows L2
/-- o[lo:hi] = v -/
def gSubS (to : TE) (tl th : TO) : TG := fun v σ H Q => to σ H fun x H1 => tl σ H1 fun lo H2 => th σ H2 fun hi H3 => ∃ (l b : Addr) (xs ys : List V) (a c : Int), x = .ref l ∧ v = .ref b ∧ lo = some a ∧ hi = some c ∧ H3 l = some (.lst xs) ∧ H3 b = some (.lst ys) ∧ l ≠ b ∧
  0 ≤ a ∧ a ≤ c ∧ c ≤ xs.length ∧ xs.length + ys.length ≤ sizeLine ∧ Q σ (upd H3 l (.lst (xs.take a.toNat ++ ys ++ xs.drop c.toNat)))
theorem part_int {v : Value} {a : Int} (h : IsPart v (some a)) : RelV (.int a) v := by
  cases h with
  | int i t => exact ⟨t, rfl⟩
section
variable {X : Cx} {pos p2 : Pos}
theorem pg_subS {o : Expr} {lo hi : Option Expr} {to : TE} {tl th : TO} (ho : PE X o to) (hl : PO X lo tl) (hu : PO X hi th)
    (ha : ∀ v, assign (.Subscript o (.Slice lo hi none p2) pos) X.env v = (do
      let ov ← holding [v] (eval o X.env)
      let iv ← holding [v, ov] (eval (.Slice lo hi none p2) X.env)
      standAt pos
      holding [v, ov, iv] (setItem ov iv v)
      release [iv, v, ov] []) := by intro _; rfl) : PG X (.Subscript o (.Slice lo hi none p2) pos) (gSubS to tl th) := by
  refine ⟨fun pins s σ H v u Q I r h => ?_⟩
  rw [ha]
  refine wpAny_bind (wpAny_holding (thn (ho.run pins s σ H _ I h) fun ov s1 ⟨x, H1, I1, r1, q1⟩ => ?_))
  refine wpAny_bind (wpAny_holding (wpAny_Slice (thn (hl.run pins s1 σ H1 _ I1 q1) fun vl s2 ⟨l, H2, I2, pl, q2⟩ => thn (hu.run pins s2 σ H2 _ I2 q2) fun vu s3 ⟨w, H3, I3, pu, q3⟩ => ?_)))
  rw [evalPart_none]
  refine wpAny_pure ?_
  have I4 : Inv X pins σ H3 { s3 with heap := s3.heap.push { cls := .type "slice", data := .fields #[vl, vu, .none] } } := I3.kept (t' := s3.toks) fun b ob q => Heap.get?_push_of_some _ q
  obtain ⟨l0, b0, xs, ys, a, c, e1, e2, e3, e4, hH, hB, hne, h0, hac, hc, hz, q⟩ := q3
  subst e1 e2 e3 e4
  cases r1
  cases r
  refine wpAny_bind (wpAny_standAt (wpAny_bind (wpAny_holding ?_)))
  exact set_slice I4 hH hB hne (Heap.IsSliceOf.new ..) (part_int pl) (part_int pu) h0 hac hc hz fun s' I' => wpAny_release ⟨σ, _, I', q⟩
end
theorem g_extend {X : Cx} : MtR X "list.extend" rExtend := mt_extend
section
variable {G : Gx} {b b' b1 b2 b3 : Nat} {te : TE} {tl th : TO} {ds : List Sd} {E : DE} {i : Nat} {xs ys : List D} {a c : Int}
/-- xs[a:c] = ys, xs our own -/
theorem w_setSl (hi : ds[i]? = some (.own xs)) (h : EvD G true b b1 te ds (.lst ys)) (hl : EpD G b1 b2 tl ds (some a)) (hh : EpD G b2 b3 th ds (some c)) (h0 : 0 ≤ a) (hac : a ≤ c) (hc : c ≤ xs.length) (hz : xs.length + ys.length ≤ 100000)
    (k : E.nx (ds.set i (.own (xs.take a.toNat ++ ys ++ xs.drop c.toNat))) b3) : Wt G b (tAsg te (gSubS (tVar i) tl th)) ds E := fun gs M H σ S Dn w => by
  refine h gs M H σ S _ fun v d' H1 r e1 l1 rp => ?_
  subst r
  have S1 := S.step e1 l1
  obtain ⟨a0, vs, hσ, m, ha, rr, n0⟩ := S1.ownL hi
  refine ⟨.ref a0, hσ, ?_⟩
  refine hl gs M H1 σ S1 _ fun H2 e2 l2 => hh gs M H2 σ (S1.step e2 l2) _ fun H3 e3 l3 => ?_
  have S3 := (S1.step e2 l2).step e3 l3
  have ha3 : H3 a0 = some (.lst vs) := e3.keep _ _ (e2.keep _ _ ha fun _ z => nomatch z) fun _ z => nomatch z
  have rp3 := (rp.mono (msk_mono e2.toKp)).mono (msk_mono e3.toKp)
  have rr3 := (rr.mono (msk_mono e2.toKp)).mono (msk_mono e3.toKp)
  cases rp3 with
  | @lst b0 ws _ hb rb =>
    obtain ⟨mb, hb2⟩ := msk_of hb
    have e5 := rr3.length
    have e6 := rb.length
    refine ⟨a0, b0, vs, ws, a, c, rfl, rfl, rfl, rfl, ha3, hb2, fun z => mb (show M b0 by rw [← z]; exact m), h0, hac, by rw [e5]; exact hc, by rw [e5, e6]; exact Nat.le_trans hz (by decide), ?_⟩
    exact w.nx M b3 _ σ _ (S3.chg hi hσ (((RpA.take _ rr3).append rb).append (RpA.drop _ rr3))) k
/-- xs.extend(e), xs our own -/
theorem ws_ext {R : List D → Prop} (hi : ds[i]? = some (.own xs)) (h : EvS G true b b' te ds (fun d => ∃ ys, d = .lst ys ∧ R ys)) (hl : ∀ ys, R ys → xs.length + ys.length ≤ 100000) (k : ∀ ys, R ys → E.nx (ds.set i (.own (xs ++ ys))) b') :
    Wt G b (tDrop (tBM G.K "list" rExtend (tVar i) (tCons te tNil))) ds E := fun gs M H σ S Dn w => by
  obtain ⟨a, vs, hσ, m, ha, r, n0⟩ := S.ownL hi
  refine ⟨.ref a, hσ, .inl ⟨rfl, vs, SqL.of ha⟩, ?_⟩
  refine h gs M H σ S _ fun v d H' rd e l rp => ?_
  obtain ⟨ys, rfl, ry⟩ := rd
  have S' := S.step e l
  have ha' : H' a = some (.lst vs) := e.keep _ _ ha fun _ z => nomatch z
  cases rp with
  | @lst b0 ws _ hb rb =>
    obtain ⟨mb, hb2⟩ := msk_of hb
    refine ⟨a, b0, vs, ws, rfl, rfl, ha', hb2, by rw [r.length, rb.length]; exact Nat.le_trans (hl ys ry) (by decide), ?_⟩
    exact w.nx M b' _ σ _ (S'.chg hi hσ ((r.mono (msk_mono e.toKp)).append rb)) (k ys ry)
theorem w_ext (hi : ds[i]? = some (.own xs)) (h : EvD G true b b' te ds (.lst ys)) (hl : xs.length + ys.length ≤ 100000) (k : E.nx (ds.set i (.own (xs ++ ys))) b') :
    Wt G b (tDrop (tBM G.K "list" rExtend (tVar i) (tCons te tNil))) ds E := ws_ext (R := fun zs => zs = ys) hi (h.imp fun d e => ⟨ys, e, rfl⟩) (fun zs e => by rw [e]; exact hl) fun zs e => by rw [e]; exact k
end
end Sh
namespace Sh
open PySem PySem.Spec PySem.Calls PyProof.Rows L2
/-! ### is True, in -/
theorem g_isB {X : Cx} : OpR X (compareOp .Is) rIsB := op_isBl
theorem g_notB {X : Cx} : OpR X (compareOp .IsNot) rNotB := op_notBl
def rInS : R2 := fun x y H Q => ∃ i j, x = .str i ∧ y = .str j ∧ Q (.bl (!(Builtin.Str.occurrences j i 0 j.length 1).isEmpty)) H
def rNotInS : R2 := fun x y H Q => ∃ i j, x = .str i ∧ y = .str j ∧ Q (.bl (!(!(Builtin.Str.occurrences j i 0 j.length 1).isEmpty))) H
def rInK : R2 := fun x y H Q => ∃ a o, y = .ref a ∧ DGet H a x o ∧ Q (.bl o.isSome) H
def rNotInK : R2 := fun x y H Q => ∃ a o, y = .ref a ∧ DGet H a x o ∧ Q (.bl (!o.isSome)) H
theorem op_inK {X : Cx} (hu : X.A.units + 1 < cLine) : OpR X (compareOp .In) rInK := by
  intro pins s σ H x y v u Q I rx ry h
  obtain ⟨a, o, rfl, g, q⟩ := h
  cases ry
  exact d_in hu I g rx fun s' I' => ⟨.bl _, H, I', rfl, q⟩
theorem op_notInK {X : Cx} (hu : X.A.units + 1 < cLine) : OpR X (compareOp .NotIn) rNotInK := by
  intro pins s σ H x y v u Q I rx ry h
  obtain ⟨a, o, rfl, g, q⟩ := h
  cases ry
  exact d_notIn hu I g rx fun s' I' => ⟨.bl _, H, I', rfl, q⟩
def rInA (K : PySem.W.Frag) : R2 := fun x y H Q => rIn K false x y H Q ∨ rInD K x y H Q ∨ rInS x y H Q ∨ rInK x y H Q
def rNotInA (K : PySem.W.Frag) : R2 := fun x y H Q => rIn K true x y H Q ∨ rNotInD K x y H Q ∨ rNotInS x y H Q ∨ rNotInK x y H Q
theorem g_in {X : Cx} {K : PySem.W.Frag} (hK : X.K = K) {k : Nat} (hr : Room k X.A) : OpR X (compareOp .In) (rInA K) := by
  subst hK
  exact op_in_seq.or ((op_inD (by have := hr.un; show X.A.units + 65 < 9900; unfold cLine at this; omega)).or (op_in_str.or (op_inK (hu_of hr))))
theorem g_notin {X : Cx} {K : PySem.W.Frag} (hK : X.K = K) {k : Nat} (hr : Room k X.A) : OpR X (compareOp .NotIn) (rNotInA K) := by
  subst hK
  exact op_notIn_seq.or ((op_notInD (by have := hr.un; show X.A.units + 65 < 9900; unfold cLine at this; omega)).or (op_notIn_str.or (op_notInK (hu_of hr))))
section
variable {K : PySem.W.Frag} {a c : Bool} {n : Int} {ns : List Int}
theorem o_isB : Op2D K rIsB (.bl a) (.bl c) (.bl (decide (a = c))) := fun N b H v u Q hN l r1 r2 k => by
  cases r1
  cases r2
  exact ⟨a, c, rfl, rfl, k _ _ H rfl (Ext.refl H) l (.bl _)⟩
theorem o_notB : Op2D K rNotB (.bl a) (.bl c) (.bl (!decide (a = c))) := fun N b H v u Q hN l r1 r2 k => by
  cases r1
  cases r2
  exact ⟨a, c, rfl, rfl, k _ _ H rfl (Ext.refl H) l (.bl _)⟩
theorem inV_ints (n : Int) : ∀ ns : List Int, inV (.int n) (ns.map V.int) = decide (n ∈ ns)
  | [] => by simp [inV]
  | m :: ns => by
    have ih := inV_ints n ns
    unfold inV at ih ⊢
    rw [List.map_cons, List.any_cons, ih]
    have e : eqV (.int m) (.int n) = decide (n = m) := by
      show (m == n) = decide (n = m)
      by_cases h : n = m
      · rw [h]; simp
      · rw [decide_eq_false h]; simp; exact fun z => h z.symm
    rw [e]
    by_cases h : n = m
    · simp [h]
    · simp [h]
theorem flat_ints : ∀ ns : List Int, (ns.map V.int).all flatV = true
  | [] => rfl
  | m :: ns => by rw [List.map_cons, List.all_cons, flat_ints ns]; rfl
theorem o_inI : Op2D K (rInA K) (.int n) (.lst (ns.map D.int)) (.bl (decide (n ∈ ns))) := fun N b H v u Q hN l r1 r2 k => by
  cases r1
  cases r2 with
  | lst ha r =>
    have e := r.ints
    subst e
    refine .inl ⟨_, _, rfl, .inl (SqL.of (msk_of ha).2), rfl, flat_ints ns, ?_⟩
    show Q (.bl (inV _ _)) H
    rw [inV_ints]
    exact k _ _ H rfl (Ext.refl H) l (.bl _)
theorem o_notinI : Op2D K (rNotInA K) (.int n) (.lst (ns.map D.int)) (.bl (!decide (n ∈ ns))) := fun N b H v u Q hN l r1 r2 k => by
  cases r1
  cases r2 with
  | lst ha r =>
    have e := r.ints
    subst e
    refine .inl ⟨_, _, rfl, .inl (SqL.of (msk_of ha).2), rfl, flat_ints ns, ?_⟩
    show Q (.bl (!inV _ _)) H
    rw [inV_ints]
    exact k _ _ H rfl (Ext.refl H) l (.bl _)
theorem o_inIT : Op2D K (rInA K) (.int n) (.tup (ns.map D.int)) (.bl (decide (n ∈ ns))) := fun N b H v u Q hN l r1 r2 k => by
  cases r1
  cases r2 with
  | tup ha r =>
    have e := r.ints
    subst e
    refine .inl ⟨_, _, rfl, .inr (sqt_unm ha), rfl, flat_ints ns, ?_⟩
    show Q (.bl (inV _ _)) H
    rw [inV_ints]
    exact k _ _ H rfl (Ext.refl H) l (.bl _)
theorem pyA_any (d : D) : ∀ xs : List D, ((D.pyA xs).any fun z => PyData.eqv z d.py) = xs.any fun x => D.eq x d
  | [] => rfl
  | x :: xs => by simp only [D.pyA, List.any_cons, pyA_any d xs]; rfl
/-- any data -/
theorem o_inD {d : D} {xs : List D} (hd : D.shp 64 d = true) (hx : D.shp 64 (.lst xs) = true) : Op2D K (rInA K) d (.lst xs) (.bl (xs.any fun x => D.eq x d)) := fun N b H v u Q hN l r1 r2 k => by
  refine .inr (.inl ⟨d.py, D.pyA xs, (r1.mono msk_all).dp hd, (r2.mono msk_all).dp hx, shp_shaped hd, shp_shaped hx, ?_⟩)
  rw [pyA_any]
  exact k _ _ H rfl (Ext.refl H) l (.bl _)
theorem o_notinD {d : D} {xs : List D} (hd : D.shp 64 d = true) (hx : D.shp 64 (.lst xs) = true) : Op2D K (rNotInA K) d (.lst xs) (.bl (!xs.any fun x => D.eq x d)) := fun N b H v u Q hN l r1 r2 k => by
  refine .inr (.inl ⟨d.py, D.pyA xs, (r1.mono msk_all).dp hd, (r2.mono msk_all).dp hx, shp_shaped hd, shp_shaped hx, ?_⟩)
  rw [pyA_any]
  exact k _ _ H rfl (Ext.refl H) l (.bl _)
end
end Sh
namespace Sh
open PySem PySem.Spec PySem.Calls PyProof.Rows L2
section
variable {G : Gx} {p : Bool} {b b' b1 b2 b3 : Nat} {ta tb te : TE} {ds : List Sd} {xs ys : List D} {i : Int}
/-- [..] * n, + of lists, slices of lists: nothing else knows them -/
theorem eo_rep (h1 : EvD G true b b1 ta ds (.lst xs)) (h2 : EvD G true b1 b2 tb ds (.int i)) (h0 : -(2 ^ 62) ≤ i ∧ i < 2 ^ 62) (hl : xs.length * i.toNat ≤ 100000) : EoD G b b2 (tOp rMulA ta tb) ds (List.replicate i.toNat xs).flatten := fun gs M H σ S Q k =>
  h1 gs M H σ S _ fun v d H1 r e1 l1 rp => h2 gs M H1 σ (S.step e1 l1) _ fun u d2 H2 r2 e2 l2 rp2 => by
    subst r r2
    cases rp2
    have rp' := rp.mono (msk_mono e2.toKp)
    cases rp' with
    | @lst a vs _ ha a1 =>
      have rep : ∀ n : Nat, RpA G.K (msk M H2) (List.replicate n vs).flatten (List.replicate n xs).flatten := fun n => by
        induction n with
        | zero => exact .nil
        | succ n ih =>
          rw [List.replicate_succ, List.replicate_succ, List.flatten_cons, List.flatten_cons]
          exact a1.append ih
      exact .inr ⟨a, i, vs, rfl, rfl, (msk_of ha).2, by omega, by omega, by rw [a1.length]; exact Nat.le_trans hl (by decide), fun q hq => k q _ _ _ rfl ((e1.trans e2).trans (Ext.new hq)) (l2.upd fun _ z => nomatch z) ((e1.trans e2).free hq) upd_same (eo_new (H' := H2) hq (rep _))⟩
theorem eo_catL (h1 : EvD G true b b1 ta ds (.lst xs)) (h2 : EvD G true b1 b2 tb ds (.lst ys)) (hl : xs.length + ys.length ≤ 100000) : EoD G b b2 (tOp (rAddA G.K) ta tb) ds (xs ++ ys) := fun gs M H σ S Q k =>
  h1 gs M H σ S _ fun v d H1 r e1 l1 rp => h2 gs M H1 σ (S.step e1 l1) _ fun u d2 H2 r2 e2 l2 rp2 => by
    subst r r2
    have rp' := rp.mono (msk_mono e2.toKp)
    cases rp' with
    | @lst a vs _ ha a1 =>
      cases rp2 with
      | @lst c ws _ hc a2 =>
        have e5 := a1.length
        have e6 := a2.length
        exact .inr (.inr (.inl ⟨a, c, vs, ws, rfl, rfl, (msk_of ha).2, (msk_of hc).2, by rw [e5, e6]; exact Nat.le_trans hl (by decide), fun q hq => k q _ _ _ rfl ((e1.trans e2).trans (Ext.new hq)) (l2.upd fun _ z => nomatch z) ((e1.trans e2).free hq) upd_same (eo_new (H' := H2) hq (a1.append a2))⟩))
theorem eo_slL {tl th : TO} {lo hi : Option Int} (h : EvD G true b b1 te ds (.lst xs)) (hl : EpD G b1 b2 tl ds lo) (hh : EpD G b2 b3 th ds hi) : EoD G b b3 (tSl (rSlG G.K) te tl th) ds (slcD xs lo hi) := fun gs M H σ S Q k =>
  h gs M H σ S _ fun v d H1 r e1 l1 rp => hl gs M H1 σ (S.step e1 l1) _ fun H2 e2 l2 => hh gs M H2 σ ((S.step e1 l1).step e2 l2) _ fun H3 e3 l3 => by
    subst r
    have e := (e1.trans e2).trans e3
    have rp' := (rp.mono (msk_mono e2.toKp)).mono (msk_mono e3.toKp)
    cases rp' with
    | @lst a vs _ ha a1 => exact .inl ⟨_, _, rfl, SqL.of (msk_of ha).2, fun q hq => k q _ _ _ rfl (e.trans (Ext.new hq)) (l3.upd fun _ z => nomatch z) (e.free hq) upd_same (eo_new (H' := H3) hq (a1.cut lo hi))⟩
end
end Sh
namespace Sh
open PySem PySem.Spec PySem.Calls PyProof.Rows L2
section
variable {G : Gx} {b b' b1 : Nat} {tt tu : TT} {ds : List Sd} {R1 R2 R : Bool → Prop}
theorem EvT.imp {b b' : Nat} (h : EvT G b b' tt ds R1) (i : ∀ c, R1 c → R c) : EvT G b b' tt ds R := fun gs M H σ S Q k => h gs M H σ S Q fun c H' r => k c H' (i c r)
theorem EvT.less (h : EvT G b b1 tt ds R) (e : b' ≤ b1) : EvT G b b' tt ds R := fun gs M H σ S Q k => h gs M H σ S Q fun c H' r x l => k c H' r x (l.mono e)
theorem ets_and (h : EvT G b b1 tt ds R1) (h2 : R1 true → EvT G b1 b' tu ds R2) (hb : b' ≤ b1) (i1 : R1 false → R false) (i2 : ∀ c, R1 true → R2 c → R c) : EvT G b b' (tAnd tt tu) ds R := fun gs M H σ S Q k => h gs M H σ S _ fun v H' r x l => by
  cases v with
  | true => exact (by show tu σ H' Q; exact h2 r gs M H' σ (S.step x l) Q fun w H2 r2 x2 l2 => k w H2 (i2 w r r2) (x.trans x2) l2)
  | false => exact (by show Q false H'; exact k false H' (i1 r) x (l.mono hb))
theorem ets_or (h : EvT G b b1 tt ds R1) (h2 : R1 false → EvT G b1 b' tu ds R2) (hb : b' ≤ b1) (i1 : R1 true → R true) (i2 : ∀ c, R1 false → R2 c → R c) : EvT G b b' (tOr tt tu) ds R := fun gs M H σ S Q k => h gs M H σ S _ fun v H' r x l => by
  cases v with
  | false => exact (by show tu σ H' Q; exact h2 r gs M H' σ (S.step x l) Q fun w H2 r2 x2 l2 => k w H2 (i2 w r r2) (x.trans x2) l2)
  | true => exact (by show Q true H'; exact k true H' (i1 r) x (l.mono hb))
theorem ets_not (h : EvT G b b' tt ds R1) (i : ∀ c, R1 c → R (!c)) : EvT G b b' (tNot tt) ds R := fun gs M H σ S Q k => h gs M H σ S _ fun v H' r e l => k (!v) H' (i v r) e l
/-- some draw == a number -/
theorem ets_eqI {ta : TE} {n : Int} (h : EvS G false b b' ta ds (fun d => ∃ i : Int, d = .int i)) : EvT G b b' (tTest (tOp (rEqD G.K) ta (tC (.int n)))) ds (fun _ => True) :=
  ets_tst (evs_op (R := fun d => ∃ c, d = .bl c ∧ True) h (fun _ _ => ev_int) fun x y ⟨i, e⟩ e2 => by rw [e, e2]; exact Op2.to o_eqI ⟨_, rfl, trivial⟩)
end
end Sh

/-! Sh19: an empty dict, != of dicts. -/
namespace Sh
open PySem PySem.Spec PySem.Calls PyProof.Rows L2
theorem ev_dnew {G : Gx} {p : Bool} {b : Nat} {ds : List Sd} : EvD G p b b tDNewK ds (.dct []) := fun gs M H σ S Q k => fun q hq =>
  k _ _ _ rfl (Ext.new hq) (S.lim.upd fun _ z => nomatch z) (.dct (msk_new (S.mm p) hq) .nil)
def rNeX (K : PySem.W.Frag) : R2 := fun x y H Q => rNeD K x y H Q ∨ rNeDA x y H Q
theorem g_neX {X : Cx} {K : PySem.W.Frag} (hK : X.K = K) {k : Nat} (hr : Room k X.A) : OpR X (compareOp .NotEq) (rNeX K) := by
  subst hK
  exact (op_neD hr.units).or (op_ne_dictA hr.units0)
theorem o_neX {K : PySem.W.Frag} {x y : D} (hx : D.shp 64 x = true) (hy : D.shp 64 y = true) : Op2D K (rNeX K) x y (.bl (!D.eq x y)) := Op2.inl (o_ne hx hy)
theorem o_neX0 {K : PySem.W.Frag} : Op2D K (rNeX K) (.dct []) (.dct []) (.bl false) := fun N b H v u Q hN l r1 r2 k => by
  cases r1 with
  | dct ha ra =>
    cases r2 with
    | dct hb rb =>
      cases ra
      cases rb
      exact .inr ⟨_, _, [], [], rfl, rfl, (msk_of ha).2, (msk_of hb).2, rfl, (fun p hp => by cases hp), k _ _ H rfl (Ext.refl H) l (.bl _)⟩
end Sh

/-! Sh20: lists of lists that nothing else knows. -/
namespace Sh
open PySem PySem.Spec PySem.Calls PyProof.Rows L2
section
variable {K : PySem.W.Frag} {H H' : Hp} {vs ws : List V} {yss zss : List (List D)} {F F2 : List Addr}
theorem RpA.flatH : ∀ {vs : List V} {ds : List D}, RpA K H vs ds → (∀ d ∈ ds, flatD d = true) → RpA K H' vs ds
  | _, _, .nil, _ => .nil
  | _, _, .cons r rr, f => .cons (r.flat (f _ List.mem_cons_self)) (RpA.flatH rr fun d hd => f d (List.mem_cons_of_mem _ hd))
theorem RowsP.mono (e : ∀ b o, H b = some o → (∀ φ, o ≠ .ext φ) → H' b = some o) : ∀ {vs yss F}, RowsP K H vs yss F → RowsP K H' vs yss F
  | _, _, _, .nil => .nil
  | _, _, _, .cons h r f q => .cons (e _ _ h fun _ z => nomatch z) r f (RowsP.mono e q)
theorem RowsP.ext (e : Ext H H') (h : RowsP K H vs yss F) : RowsP K H' vs yss F := h.mono e.keep
theorem RowsP.app : ∀ {vs yss F}, RowsP K H vs yss F → RowsP K H ws zss F2 → RowsP K H (vs ++ ws) (yss ++ zss) (F ++ F2)
  | _, _, _, .nil, q => q
  | _, _, _, .cons h r f p, q => .cons h r f (RowsP.app p q)
theorem RowsP.len : ∀ {vs yss F}, RowsP K H vs yss F → vs.length = yss.length ∧ F.length = yss.length
  | _, _, _, .nil => ⟨rfl, rfl⟩
  | _, _, _, .cons h r f q => ⟨congrArg (· + 1) (RowsP.len q).1, congrArg (· + 1) (RowsP.len q).2⟩
theorem RowsP.upd {c : Addr} {o : HO} : ∀ {vs yss F}, RowsP K H vs yss F → c ∉ F → RowsP K (upd H c o) vs yss F
  | _, _, _, .nil, _ => .nil
  | _, _, _, .cons h r f q, n => .cons (by rw [upd_ne (fun z => n (by rw [← z]; exact List.mem_cons_self))]; exact h) r f (RowsP.upd q fun z => n (List.mem_cons_of_mem _ z))
theorem RowsP.live : ∀ {vs yss F}, RowsP K H vs yss F → ∀ c ∈ F, H c ≠ none
  | _, _, _, .nil, c, z => by cases z
  | _, _, _, .cons h r f q, c, z => by
    rcases List.mem_cons.mp z with e | z
    · rw [e, h]; exact fun z => nomatch z
    · exact RowsP.live q c z
theorem RowsP.rpa {N : Addr → Prop} : ∀ {vs yss F}, RowsP K H vs yss F → (∀ c ∈ F, ¬ N c) → RpA K (msk N H) vs (yss.map .lst)
  | _, _, _, .nil, _ => .nil
  | _, _, _, .cons h r f q, n => .cons (.lst (by rw [msk_no (n _ List.mem_cons_self)]; exact h) (RpA.flatH r f)) (RowsP.rpa q fun c hc => n c (List.mem_cons_of_mem _ hc))
theorem RowsP.at : ∀ {vs yss F} {k : Nat} {ys : List D}, RowsP K H vs yss F → yss[k]? = some ys → ∃ b ws, F[k]? = some b ∧ vs[k]? = some (.ref b) ∧ H b = some (.lst ws) ∧ RpA K (fun _ => none) ws ys ∧ ∀ y ∈ ys, flatD y = true
  | _, _, _, k, ys, .nil, h => by simp at h
  | _, _, _, 0, ys, .cons h r f q, e => by simp at e; subst e; exact ⟨_, _, rfl, rfl, h, r, f⟩
  | _, _, _, k + 1, ys, .cons h r f q, e => by
    obtain ⟨b, ws, h1, h2, h3⟩ := RowsP.at (k := k) q (by simpa using e)
    exact ⟨b, ws, by simpa using h1, by simpa using h2, h3⟩
theorem RowsP.set {b : Addr} {ws' : List V} {ys' : List D} (r' : RpA K (fun _ => none) ws' ys') (f' : ∀ y ∈ ys', flatD y = true) : ∀ {vs yss F} {k : Nat}, RowsP K H vs yss F → F.Nodup → F[k]? = some b → RowsP K (L2.upd H b (.lst ws')) vs (yss.set k ys') F
  | _, _, _, k, .nil, _, h => by simp at h
  | _, _, _, 0, .cons h r f q, nd, e => by
    simp at e; subst e
    exact .cons upd_same r' f' (q.upd (List.nodup_cons.mp nd).1)
  | _, _, _, k + 1, .cons (b := c) h r f q, nd, e => by
    have e : _ := (show _ = _ by simpa using e)
    have hm := List.mem_of_getElem? e
    refine .cons ?_ r f (RowsP.set r' f' q (List.nodup_cons.mp nd).2 e)
    show (L2.upd H b (.lst ws')) c = _
    rw [upd_ne (fun z => (List.nodup_cons.mp nd).1 (by rw [z]; exact hm))]
    exact h
end
end Sh
namespace Sh
open PySem PySem.Spec PySem.Calls PyProof.Rows L2
theorem at_un {σ : List (Option V)} {ds : List Sd} {j i : Nat} {c : Addr} (h : At σ (ds.set j .un) i c) : At σ ds i c := by
  obtain ⟨s, e, g1, g2, g3⟩ := h
  by_cases hj : j = i
  · subst hj
    have hlt : j < ds.length := by simpa using (List.getElem?_eq_some_iff.mp g2).1
    rw [List.getElem?_set_self hlt] at g2
    cases g2
    cases g3
  · rw [List.getElem?_set_ne hj] at g2
    exact ⟨s, e, g1, g2, g3⟩
/-- the slot is not known any more -/
theorem Stt.unk {K : PySem.W.Frag} {H0 H : Hp} {M0 M : Addr → Prop} {b : Nat} {σ : List (Option V)} {ds : List Sd} {gs : List (V × D)} (S : Stt K H0 M0 gs M b H σ ds) (j : Nat) : Stt K H0 M0 gs M b H σ (ds.set j .un) := by
  by_cases hj : j < σ.length
  · have q := S.forget j σ[j]
    rw [List.set_getElem_self] at q
    exact q
  · have e : ds.set j .un = ds := List.set_eq_of_length_le (by rw [← S.len]; omega)
    rw [e]; exact S
def EvO2 (G : Gx) (b b' : Nat) (te : TE) (ds : List Sd) (R : List (List D) → Prop) : Prop := ∀ gs M H σ, G.st gs M b H σ ds → ∀ Q : VK,
  (∀ a vs yss F H', R yss → Ext H H' → Lim b' H' → H a = none → (∀ c ∈ F, H c = none) → (a :: F).Nodup → H' a = some (.lst vs) → RowsP G.K H' vs yss F → Q (.ref a) H') → te σ H Q
section
variable {G : Gx} {p : Bool} {b b' b1 b2 : Nat} {te ta tb : TE} {t tk : TA} {ds : List Sd} {R : List (List D) → Prop} {F : Fd} {n m : Nat} {E : L2.St → XK} {es fs : List D}
theorem EvO2.evs (h : EvO2 G b b' te ds R) : EvS G p b b' te ds (fun d => ∃ yss, d = .lst (yss.map .lst) ∧ R yss) := fun gs M H σ S Q k =>
  h gs M H σ S Q fun a vs yss F H' r e l hn hF nd ha rows => by
    have nM : ∀ c, H c = none → ¬ mmk p M G.M0 c := fun c hc z => S.mm p c z hc
    exact k _ _ H' ⟨yss, rfl, r⟩ e l (.lst (by rw [msk_no (nM a hn)]; exact ha) (rows.rpa fun c hc => nM c (hF c hc)))
theorem eo2_lc {wi : TI} {g : TG} {vs : List Nat} {it : Nat → D} (f : Nat → List D) (hi : EvI G b b' wi ds n it) (hn : n ≤ 100000) (hf : ∀ i y, i < n → y ∈ f i → flatD y = true)
    (hs : ∀ i, i < n → ∃ ds'', TgR G.K vs g (it i) (wipeD ds vs) ds'' ∧ ∀ b0, EoD G b0 b0 te ds'' (f i)) : EvO2 G b b' (tLc wi g tYes te vs) ds (fun yss => yss = (List.range n).map f) := fun gs M H σ S Q k =>
  hi gs M H σ S _ fun J gs' H1 e l hg ok => fun D hD => by
    have S1 : Stt G.K G.H0 G.M0 (gs' ++ gs) M b' H1 σ ds := (S.step e l).ghosts hg
    have ww : ∀ σ : List (Option V), L2.wipe (L2.wipe σ vs) vs = L2.wipe σ vs := fun σ => by
      have main : ∀ ws : List Nat, (∀ v ∈ ws, v ∈ vs) → L2.wipe (L2.wipe σ ws) vs = L2.wipe σ vs := fun ws => by
        induction ws with
        | nil => intro _; rfl
        | cons v ws ih =>
          intro hv
          show L2.wipe ((L2.wipe σ ws).set v none) vs = L2.wipe σ vs
          rw [wipe_in _ _ _ _ (hv v List.mem_cons_self), ih fun u hu => hv u (List.mem_cons_of_mem _ hu)]
      exact main vs fun _ h => h
    refine ⟨fun i m H => m = n - i ∧ i ≤ n ∧ ∃ acc F, Ext H1 H ∧ Lim b' H ∧ H D = some (.lst acc) ∧ RowsP G.K H acc ((List.range i).map f) F ∧ (∀ c ∈ F, H1 c = none) ∧ (D :: F).Nodup, ⟨n, by omega, Nat.zero_le _, [], [], Ext.new hD, S1.lim.upd (fun _ z => nomatch z), upd_same, .nil, (fun c z => by cases z), List.nodup_cons.mpr ⟨(fun z => by cases z), List.nodup_nil⟩⟩, ?_⟩
    rintro i m H2 ⟨rfl, hin, acc, F, e2, l2, hacc, racc, hF, nd⟩
    have S2 : Stt G.K G.H0 G.M0 (gs' ++ gs) (fun a => M a ∨ a = D) b' H2 σ ds := S1.grow hD e2 l2 (by rw [hacc]; exact fun z => nomatch z)
    by_cases hlt : i < n
    · refine .inr ⟨ok.go i _ H2 S2.gh' hlt, fun H => ∃ acc F, Ext H1 H ∧ Lim b' H ∧ H D = some (.lst acc) ∧ RowsP G.K H acc ((List.range (i + 1)).map f) F ∧ (∀ c ∈ F, H1 c = none) ∧ (D :: F).Nodup, fun H' z => ⟨n - (i + 1), by omega, rfl, hlt, z⟩, fun x H3 y => ?_⟩
      obtain ⟨x1, x2, x3⟩ := ok.yld i _ H2 S2.gh' hlt x H3 y
      obtain ⟨ds'', t1, t2⟩ := hs i hlt
      have S3 := (S2.step x1 (x2 _ S2.lim)).wipe vs
      refine t1 _ _ _ _ _ H3 _ x S3 x3 _ fun σ4 S4 ew => ⟨by rw [ew]; exact ww σ, ?_⟩
      show te σ4 H3 _
      refine t2 b' _ _ H3 σ4 S4 _ fun a ws xs H5 r5 e5 l5 hn5 ha5 rr5 => ?_
      subst r5
      have e25 := x1.trans e5
      have hacc3 : H3 D = some (.lst acc) := x1.keep _ _ hacc fun _ z => nomatch z
      have hacc5 : H5 D = some (.lst acc) := e5.keep _ _ hacc3 fun _ z => nomatch z
      have haD : a ≠ D := fun z => by rw [z, hacc3] at hn5; cases hn5
      have haF : a ∉ F := fun z => (racc.ext x1).live a z hn5
      have len : acc.length ≤ n := by
        rw [racc.len.1, List.length_map, List.length_range]
        exact hin
      have nD := (List.nodup_cons.mp nd).1
      have nF := (List.nodup_cons.mp nd).2
      refine ⟨acc, hacc5, Nat.lt_of_le_of_lt (Nat.le_trans len hn) (by decide), acc ++ [.ref a], F ++ [a], (e2.trans e25).mut hD, l5.upd (fun _ z => nomatch z), upd_same, ?_, fun c hc => ?_, ?_⟩
      · rw [List.range_succ, List.map_append]
        exact ((racc.ext e25).upd nD).app (.cons (by rw [upd_ne haD]; exact ha5) (RpA.flatH rr5 fun y hy => hf i y hlt hy) (fun y hy => hf i y hlt hy) .nil)
      · rcases List.mem_append.mp hc with hc | hc
        · exact hF c hc
        · rw [List.mem_singleton.mp hc]; exact e2.free (x1.free hn5)
      · refine List.nodup_cons.mpr ⟨fun z => ?_, ?_⟩
        · rcases List.mem_append.mp z with z | z
          · exact nD z
          · exact haD (List.mem_singleton.mp z).symm
        · refine List.nodup_append.mpr ⟨nF, List.nodup_cons.mpr ⟨(fun z => by cases z), List.nodup_nil⟩, fun x hx y hy z => ?_⟩
          rw [List.mem_singleton.mp hy] at z
          exact haF (by rw [← z]; exact hx)
    · have en : i = n := by omega
      subst en
      refine .inl ⟨ok.stop _ H2 S2.gh', ?_⟩
      exact k D acc _ F H2 rfl (e.trans e2) l2 (e.free hD) (fun c hc => e.free (hF c hc)) nd hacc racc
/-- f(e, .., k = v) -/
theorem eo2_calK {z : D} (ha : EaD G true b b1 t ds es) (hk : EaD G true b1 b2 tk ds fs) (h : Cal F (es ++ fs) z) (hn : es.length = n) (hm : fs.length = m) (ho : F.own = true := by rfl) (ho2 : F.own2 = 1 := by rfl) : EvO2 G b b2 (tCl n m (SpD G.K F) (fun vs zs => vs ++ zs) E t tk) ds (fun yss => D.lst (yss.map .lst) = z) := fun gs M H σ S Q k =>
  ha gs M H σ S _ fun vs es' H1 r1 e1 l1 rp1 => hk gs M H1 σ (S.step e1 l1) _ fun zs fs' H2 r2 e2 l2 rp2 => by
    subst r1 r2
    have S2 := (S.step e1 l1).step e2 l2
    refine ⟨by rw [rp1.length, hn], by rw [rp2.length, hm], es' ++ fs', M, b2, S2.liv, l2.mono (by rw [h.cost, Nat.zero_add]; exact Nat.le_refl _), (rp1.mono (msk_mono e2.toKp)).append rp2, h.n, h.dom, fun v d H3 rd e3 l3 rp3 o => ?_, fun C dd fsV x H3 rx => absurd rx (h.exn C x)⟩
    have o := o ho
    rw [ho2] at o
    obtain ⟨a, ws, yss, F', rfl, rfl, q1, q2, q3, q4, q5⟩ := o
    have e12 := e1.trans e2
    exact k a ws yss F' H3 (h.res _ rd) (e12.trans e3) l3 (e12.free q1) (fun c hc => e12.free (q2 c hc)) q3 q4 q5
end
/-! ### while slot i holds such a list -/
structure Ow2 (G : Gx) (M : Addr → Prop) (F : List Addr) (H : Hp) (σ : List (Option V)) (ds : List Sd) (i : Nat) (a : Addr) (vs : List V) (yss : List (List D)) : Prop where
  un : ds[i]? = some .un
  at_ : σ[i]? = some (some (V.ref a))
  all : ∀ c ∈ a :: F, M c ∧ ¬ G.M0 c
  nd : (a :: F).Nodup
  ha : H a = some (.lst vs)
  rows : RowsP G.K H vs yss F
  no : ∀ c ∈ a :: F, ∀ j, ¬ At σ ds j c
def W2 (G : Gx) (b : Nat) (ts : TS) (i : Nat) (yss : List (List D)) (ds : List Sd) (E : DE) : Prop := ∀ gs M F H σ a vs, G.st gs M b H σ ds → Ow2 G M F H σ ds i a vs yss → ∀ Dn : Ends, Wants G gs E Dn → ts Dn σ H
section
variable {G : Gx} {p : Bool} {b b' b1 b2 : Nat} {te ta tb : TE} {tt : TT} {t u rest : TS} {ds : List Sd} {R : List (List D) → Prop} {E : DE} {i j : Nat} {yss : List (List D)} {gs : List (V × D)} {M : Addr → Prop} {F : List Addr} {H H' : Hp} {σ : List (Option V)} {a : Addr} {vs : List V}
theorem Ow2.step (O : Ow2 G M F H σ ds i a vs yss) (e : Ext H H') : Ow2 G M F H' σ ds i a vs yss := ⟨O.un, O.at_, O.all, O.nd, e.keep _ _ O.ha (fun _ z => nomatch z), O.rows.ext e, O.no⟩
theorem Ow2.thaw (O : Ow2 G M F H σ ds i a vs yss) (S : G.st gs M b H σ ds) : ∃ M', (∀ c, M' c → M c) ∧ G.st gs M' b H σ (ds.set i (.dat (.lst (yss.map .lst)))) := by
  have hs : Kp (msk M H) (msk (fun c => M c ∧ c ∉ a :: F) H) := msk_sub fun c h => h.1
  have hi : i < ds.length := (List.getElem?_eq_some_iff.mp O.un).1
  have other : ∀ (j : Nat) (c : Addr), At σ ds j c → c ∉ a :: F := fun j c h z => O.no c z j h
  refine ⟨fun c => M c ∧ c ∉ a :: F, fun c h => h.1, S.ext, fun c h => ⟨S.m0 c h, fun z => (O.all c z).2 h⟩, fun c h n => S.new c h.1 n, fun c h => S.liv c h.1, S.lim, by rw [List.length_set]; exact S.len, fun j s e h1 h2 => ?_, fun j k c h1 h2 => ?_, fun j c h1 => ?_, fun q hq => (S.gh q hq).mono hs⟩
  · by_cases hj : i = j
    · subst hj
      rw [O.at_] at h1
      cases h1
      rw [List.getElem?_set_self hi] at h2
      cases h2
      exact ⟨_, rfl, .lst (by rw [msk_no fun z => z.2 List.mem_cons_self]; exact O.ha) (O.rows.rpa fun c hc z => z.2 (List.mem_cons_of_mem _ hc))⟩
    · rw [List.getElem?_set_ne hj] at h2
      exact (S.sl j s e h1 h2).chg hs (fun c hc m => ⟨m, other j c ⟨s, e, h1, h2, hc⟩⟩) fun c o _ ho _ => ho
  · rcases at_setD O.at_ h1 with ⟨_, h1⟩ | ⟨_, h1⟩
    · cases h1
    · rcases at_setD O.at_ h2 with ⟨_, h2⟩ | ⟨_, h2⟩
      · cases h2
      · exact S.inj j k c h1 h2
  · rcases at_setD O.at_ h1 with ⟨_, h1⟩ | ⟨_, h1⟩
    · cases h1
    · exact S.ownNew j c h1
theorem w2_start (h : EvO2 G b b' te ds R) (hi : i < ds.length) (k : ∀ yss, R yss → W2 G b' u i yss (ds.set i .un) E) : Wt G b (tSeq (tAsg te (gName i)) u) ds E := fun gs M H σ S Dn w =>
  h gs M H σ S _ fun a vs yss F H' r e l hn hF nd ha rows => by
    have hall : ∀ c, c ∈ a :: F → H c = none := fun c hc => by
      rcases List.mem_cons.mp hc with z | z
      · rw [z]; exact hn
      · exact hF c z
    have S2 := (S.growP (P := fun c => c ∈ a :: F) hall e l fun c hc => by
      rcases List.mem_cons.mp hc with z | z
      · rw [z, ha]; exact fun z => nomatch z
      · exact rows.live c z).forget i (some (.ref a))
    refine k yss r gs _ F H' _ a vs S2 ⟨List.getElem?_set_self hi, List.getElem?_set_self (by rw [S.len]; exact hi), fun c hc => ⟨.inr hc, fun z => S.liv c (S.m0 c z) (hall c hc)⟩, nd, ha, rows, fun c hc j h1 => ?_⟩ Dn w
    rcases at_set h1 with ⟨_, h1⟩ | ⟨_, h1⟩
    · cases h1
    · exact S.liv c (S.atM h1) (hall c hc)
theorem w2_if (h : EtD G b b1 tt (ds.set i (.dat (.lst (yss.map .lst)))) false) (k : W2 G b1 rest i yss ds E) : W2 G b (tSeq (tIfS tt t tNext) rest) i yss ds E := fun gs M F H σ a vs S O Dn w => by
  obtain ⟨M', _, S'⟩ := O.thaw S
  refine h gs M' H σ S' _ fun v H' r e l => ?_
  subst r
  exact k gs M F H' σ a vs (S.step e l) (O.step e) Dn w
theorem w2_thaw (h : Wt G b t (ds.set i (.dat (.lst (yss.map .lst)))) E) : W2 G b t i yss ds E := fun gs M F H σ a vs S O Dn w => by
  obtain ⟨M', _, S'⟩ := O.thaw S
  exact h gs M' H σ S' Dn w
theorem w2_own {xs : List D} (hj : j ≠ i) (h : EoD G b b1 te (ds.set i (.dat (.lst (yss.map .lst)))) xs) (hf : ∀ x ∈ xs, flatD x = true) (k : W2 G b1 rest i yss (ds.set j (.own xs)) E) : W2 G b (tSeq (tAsg te (gName j)) rest) i yss ds E := fun gs M F H σ a vs S O Dn w => by
  obtain ⟨M', _, S'⟩ := O.thaw S
  refine h gs M' H σ S' _ fun p ws xs' H' r e l hn hp rr => ?_
  subst r
  have S2 := S.adopt (i := j) hn e l hp (RpA.flatH rr hf)
  refine k gs _ F H' _ a vs S2 ⟨by rw [List.getElem?_set_ne hj]; exact O.un, by rw [List.getElem?_set_ne hj]; exact O.at_, fun c hc => ⟨.inl (O.all c hc).1, (O.all c hc).2⟩, O.nd, e.keep _ _ O.ha (fun _ z => nomatch z), O.rows.ext e, fun c hc j' h1 => ?_⟩ Dn w
  rcases at_set h1 with ⟨_, h1⟩ | ⟨_, h1⟩
  · cases h1
    exact absurd hn (S.liv _ (O.all _ hc).1)
  · exact O.no c hc j' h1
theorem w2_retCat (h : EvO2 G b b' tb ds R) (hl : ∀ zss, R zss → yss.length + zss.length ≤ 100000) (k : ∀ zss, R zss → E.rt (.lst ((yss ++ zss).map .lst)) ds b') (ho : E.ro2 = 1 := by rfl) : W2 G b (tRet (tOp (rAddA G.K) (tVar i) tb)) i yss ds E := fun gs M F H σ a vs S O Dn w => by
  refine ⟨.ref a, O.at_, ?_⟩
  refine h gs M H σ S _ fun a2 ws zss F2 H' r e l hn hF nd ha2 rows2 => ?_
  have O' := O.step e
  have l1 := O'.rows.len.1
  have l2 := rows2.len.1
  refine .inr (.inr (.inl ⟨a, a2, vs, ws, rfl, rfl, O'.ha, ha2, by rw [l1, l2]; exact Nat.le_trans (hl zss r) (by decide), fun q hq => ?_⟩))
  have e2 : Ext H' (upd H' q (.lst (vs ++ ws))) := Ext.new hq
  have S' := (S.step e l).step e2 (l.upd fun _ z => nomatch z)
  have rw1 : RowsP G.K (upd H' q (.lst (vs ++ ws))) (vs ++ ws) (yss ++ zss) (F ++ F2) := (O'.rows.app rows2).ext e2
  have n1 : ∀ c ∈ F, ¬ G.M0 c := fun c hc => (O.all c (List.mem_cons_of_mem _ hc)).2
  have n2 : ∀ c ∈ F2, ¬ G.M0 c := fun c hc z => S.liv c (S.m0 c z) (hF c hc)
  have n3 : ∀ c ∈ F ++ F2, ¬ G.M0 c := fun c hc => (List.mem_append.mp hc).elim (n1 c) (n2 c)
  have nq : ¬ G.M0 q := fun z => e.dom q (S.liv q (S.m0 q z)) hq
  refine w.rt M b' _ σ ds (.ref q) _ S' (k zss r) (.lst (by rw [msk_no nq]; exact upd_same) (rw1.rpa n3)) fun _ => ?_
  rw [ho]
  refine ⟨q, vs ++ ws, yss ++ zss, F ++ F2, rfl, rfl, (S.ext.trans e).free hq, fun c hc => ?_, ?_, upd_same, rw1⟩
  · rcases List.mem_append.mp hc with hc | hc
    · exact S.new c (O.all c (List.mem_cons_of_mem _ hc)).1 (n1 c hc)
    · exact S.ext.free (hF c hc)
  · refine List.nodup_cons.mpr ⟨fun z => ?_, List.nodup_append.mpr ⟨(List.nodup_cons.mp O.nd).2, (List.nodup_cons.mp nd).2, fun x hx y hy z => ?_⟩⟩
    · rcases List.mem_append.mp z with z | z
      · exact O'.rows.live q z hq
      · exact rows2.live q z hq
    · rw [z] at hx
      exact O.rows.live y hx (hF y hy)
theorem w2_app0 (hl : yss.length < 100000) (k : W2 G b rest i (yss ++ [[]]) ds E) : W2 G b (tSeq (tDrop (tBM G.K "list" rAppend (tVar i) (tCons (tLst tNil) tNil))) rest) i yss ds E := fun gs M F H σ a vs S O Dn w => by
  refine ⟨.ref a, O.at_, .inl ⟨rfl, vs, SqL.of O.ha⟩, ?_⟩
  refine ⟨Nat.zero_le _, fun p hp => ?_⟩
  have hap : a ≠ p := fun z => by have q := O.ha; rw [z, hp] at q; cases q
  have hpF : p ∉ F := fun z => O.rows.live p z hp
  have ha2 : (upd H p (.lst [])) a = some (.lst vs) := by rw [upd_ne hap]; exact O.ha
  refine ⟨a, vs, .ref p, rfl, rfl, ha2, by rw [O.rows.len.1]; exact Nat.lt_of_lt_of_le hl (by decide), ?_⟩
  have S2 := S.growP (P := fun c => c = p) (fun c hc => by rw [hc]; exact hp) (Ext.new (o := .lst []) hp) (S.lim.upd fun _ z => nomatch z) (fun c hc => by rw [hc, upd_same]; exact fun z => nomatch z)
  have S3 := S2.updM (D := a) (o := .lst (vs ++ [.ref p])) (.inl (O.all a List.mem_cons_self).1) (O.all a List.mem_cons_self).2 (fun _ z => nomatch z) (O.no a List.mem_cons_self)
  have nF := (List.nodup_cons.mp O.nd).1
  refine k gs _ (F ++ [p]) _ σ a (vs ++ [.ref p]) S3 ⟨O.un, O.at_, fun c hc => ?_, ?_, upd_same, ?_, fun c hc j h1 => ?_⟩ Dn w
  · rcases List.mem_cons.mp hc with z | z
    · rw [z]; exact ⟨.inl (O.all a List.mem_cons_self).1, (O.all a List.mem_cons_self).2⟩
    · rcases List.mem_append.mp z with z | z
      · exact ⟨.inl (O.all c (List.mem_cons_of_mem _ z)).1, (O.all c (List.mem_cons_of_mem _ z)).2⟩
      · rw [List.mem_singleton.mp z]; exact ⟨.inr rfl, fun q => S.liv p (S.m0 p q) hp⟩
  · refine List.nodup_cons.mpr ⟨fun z => ?_, List.nodup_append.mpr ⟨(List.nodup_cons.mp O.nd).2, List.nodup_cons.mpr ⟨(fun z => by cases z), List.nodup_nil⟩, fun x hx y hy z => ?_⟩⟩
    · rcases List.mem_append.mp z with z | z
      · exact nF z
      · exact hap (List.mem_singleton.mp z)
    · rw [List.mem_singleton.mp hy] at z
      exact hpF (by rw [← z]; exact hx)
  · refine RowsP.upd (((O.rows.ext (Ext.new hp)).app (.cons upd_same .nil (fun y hy => by cases hy) .nil))) fun z => ?_
    rcases List.mem_append.mp z with z | z
    · exact nF z
    · exact hap (List.mem_singleton.mp z)
  · rcases List.mem_cons.mp hc with z | z
    · rw [z] at h1; exact O.no a List.mem_cons_self j h1
    · rcases List.mem_append.mp z with z | z
      · exact O.no c (List.mem_cons_of_mem _ z) j h1
      · rw [List.mem_singleton.mp z] at h1
        exact S.liv p (S.atM h1) hp
theorem set_mid {α : Type} (f : α → α) (xs : List α) (t : Nat) (h : t < xs.length) : ((xs.take t).map f ++ xs.drop t).set t (f xs[t]) = (xs.take (t + 1)).map f ++ xs.drop (t + 1) := by
  rw [List.set_append_right _ _ (by simp; omega)]
  rw [List.length_map, List.length_take, Nat.min_eq_left (Nat.le_of_lt h), Nat.sub_self, List.drop_eq_getElem_cons h, List.set_cons_zero, List.take_succ, List.getElem?_eq_getElem h, List.map_append, List.append_assoc]
  rfl
theorem w2_appAll {n : Int} (hj : j ≠ i) (hjl0 : j < ds.length) (hl : ∀ ys ∈ yss, ys.length < 100000) (hf : ∀ ys ∈ yss, ∀ y ∈ ys, flatD y = true) (k : W2 G b rest i (yss.map (· ++ [.int n])) (ds.set j .un) E) :
    W2 G b (tSeq (tFor (iList G.K (tVar i)) (gName j) (tDrop (tBM G.K "list" rAppend (tVar j) (tCons (tC (.int n)) tNil)))) rest) i yss ds E := fun gs M F H σ a vs S O Dn w => by
  have un2 : (ds.set j .un)[i]? = some .un := by rw [List.getElem?_set_ne hj]; exact O.un
  refine ⟨.ref a, O.at_, a, rfl, ⟨vs, SqL.of O.ha⟩, ?_⟩
  refine ⟨fun t m σ' H' => m = yss.length - t ∧ t ≤ yss.length ∧ G.st gs M b H' σ' (ds.set j .un) ∧ Ow2 G M F H' σ' (ds.set j .un) i a vs ((yss.take t).map (· ++ [.int n]) ++ yss.drop t), ⟨yss.length, by omega, Nat.zero_le _, S.unk j, un2, O.at_, O.all, O.nd, O.ha, by simpa using O.rows, fun c hc j' h1 => O.no c hc j' (at_un h1)⟩, ?_⟩
  rintro t m σ' H2 ⟨rfl, ht, S2, O2⟩
  have ly : ((yss.take t).map (· ++ [D.int n]) ++ yss.drop t).length = yss.length := by simp; omega
  have lv : vs.length = yss.length := by rw [O2.rows.len.1, ly]
  by_cases hlt : t < yss.length
  · have hvt : vs[t]? = some vs[t] := List.getElem?_eq_getElem (by omega)
    refine .inr ⟨⟨vs, vs[t], SqL.of O2.ha, hvt⟩, fun σ' H' => G.st gs M b H' σ' (ds.set j .un) ∧ Ow2 G M F H' σ' (ds.set j .un) i a vs ((yss.take (t + 1)).map (· ++ [.int n]) ++ yss.drop (t + 1)), fun σ' H' z => ⟨yss.length - (t + 1), by omega, rfl, hlt, z⟩, fun x H3 y => ?_⟩
    obtain ⟨e1, e2⟩ := y
    subst e1
    have hx := e2 _ (SqL.of O2.ha)
    have hyt : ((yss.take t).map (· ++ [D.int n]) ++ yss.drop t)[t]? = some yss[t] := by
      rw [List.getElem?_append_right (by simp; omega)]
      simp [hlt, Nat.min_eq_left (Nat.le_of_lt hlt)]
    obtain ⟨b0, ws, f1, f2, f3, f4, f5⟩ := O2.rows.at hyt
    rw [f2] at hx
    have hx := Option.some.inj hx
    subst hx
    have hm := List.mem_of_getElem? f1
    have hall := O2.all b0 (List.mem_cons_of_mem _ hm)
    have hba : b0 ≠ a := fun z => (List.nodup_cons.mp O2.nd).1 (by rw [← z]; exact hm)
    have hys : yss[t] ∈ yss := List.getElem_mem hlt
    have hjσ : j < σ'.length := by rw [S2.len, List.length_set]; exact hjl0
    show (tDrop (tBM G.K "list" rAppend (tVar j) (tCons (tC (.int n)) tNil))) _ (σ'.set j (some (.ref b0))) H3
    · refine ⟨.ref b0, List.getElem?_set_self hjσ, .inl ⟨rfl, ws, SqL.of f3⟩, ?_⟩
      refine ⟨b0, ws, .int n, rfl, rfl, f3, by rw [f4.length]; exact Nat.lt_of_lt_of_le (hl _ hys) (by decide), ?_⟩
      have S3 := S2.forget j (some (.ref b0))
      rw [List.set_set] at S3
      have hno : ∀ c ∈ a :: F, ∀ j', ¬ At (σ'.set j (some (V.ref b0))) (ds.set j Sd.un) j' c := fun c hc j' h1 => by
        rcases at_set h1 with ⟨_, h1⟩ | ⟨_, h1⟩
        · cases h1
        · exact O2.no c hc j' (by
            obtain ⟨s, e, g1, g2, g3⟩ := h1
            by_cases hjj : j = j'
            · subst hjj; exact absurd rfl (by assumption)
            · exact ⟨s, e, g1, by rw [List.getElem?_set_ne hjj]; exact g2, g3⟩)
      have S4 := S3.updM (D := b0) (o := .lst (ws ++ [.int n])) hall.1 hall.2 (fun _ z => nomatch z) (hno b0 (List.mem_cons_of_mem _ hm))
      refine ⟨S4, un2, by rw [List.getElem?_set_ne hj]; exact O2.at_, O2.all, O2.nd, by rw [upd_ne (Ne.symm hba)]; exact O2.ha, ?_, hno⟩
      have q := RowsP.set (ws' := ws ++ [.int n]) (ys' := yss[t] ++ [.int n]) (f4.append (.cons (.int n) .nil)) (fun y hy => by
        rcases List.mem_append.mp hy with hy | hy
        · exact hf _ hys y hy
        · rw [List.mem_singleton.mp hy]; rfl) O2.rows (List.nodup_cons.mp O2.nd).2 f1
      rw [set_mid (fun ys : List D => ys ++ [D.int n]) yss t hlt] at q
      exact q
  · have et : t = yss.length := by omega
    subst et
    refine .inl ⟨⟨vs, SqL.of O2.ha, Nat.le_of_eq lv⟩, ?_⟩
    have q : (yss.take yss.length).map (· ++ [D.int n]) ++ yss.drop yss.length = yss.map (· ++ [D.int n]) := by simp
    rw [q] at O2
    exact k gs M F H2 σ' a vs S2 O2 Dn w
end
end Sh
namespace Sh
open PySem PySem.Spec PySem.Calls PyProof.Rows L2
theorem eo_cal {G : Gx} {b b1 n : Nat} {t : TA} {ds : List Sd} {F : Fd} {E : L2.St → XK} {es xs : List D} (ha : EaD G true b b1 t ds es) (h : Cal F es (.lst xs)) (hn : es.length = n) (ho : F.own = true := by rfl) (ho2 : F.own2 = 0 := by rfl) :
    EoD G b b1 (tCl n 0 (SpD G.K F) (fun vs _ => vs) E t tNil) ds xs := eos_cl (c := 0) ha ho h.n h.dom (by rw [h.cost]; exact Nat.le_refl _) (fun d q => ⟨xs, h.res d q, rfl⟩) h.exn hn (by omega) ho2
theorem eo_lc1 {G : Gx} {b b' : Nat} {wi : TI} {g : TG} {te : TE} {vs : List Nat} {ds : List Sd} {n : Nat} {it : Nat → D} (f : Nat → D) (hi : EvI G b b' wi ds n it) (hn : n ≤ 100000)
    (hs : ∀ i, i < n → ∃ ds'', TgR G.K vs g (it i) (wipeD ds vs) ds'' ∧ ∀ b0, EvD G true b0 b0 te ds'' (f i)) : EoD G b b' (tLc wi g tYes te vs) ds ((List.range n).map f) := by
  refine eos_lc 0 (fun i acc => acc = (List.range i).map f) hi hn rfl ?_ ?_ ?_ (by omega)
  · intro i acc hlt e
    obtain ⟨ds'', t1, t2⟩ := hs i hlt
    refine ⟨ds'', t1, fun b0 => ⟨true, et_yes, fun h => (t2 b0).imp fun d ed => ?_, fun h => nomatch h⟩⟩
    rw [ed, e, List.range_succ, List.map_append]
    rfl
  · intro acc e
    rw [e, List.length_map, List.length_range]
    exact Nat.le_refl _
  · intro i acc e
    rw [e, List.length_map, List.length_range]
    exact Nat.le_refl _
end Sh

/-! Sh21: exceptions that are caught and kept. -/
namespace Sh
open PySem PySem.Spec PySem.Calls PyProof.Rows L2
/-- an exception that is known to the letter -/
def EX (oe : Obj) (a : Addr) : HO := .frz oe (.ext fun h => h.get? a = some oe)
theorem ex_ok {P : Program} {w : World} {H : Hp} {h : Heap} {a : Addr} {oe : Obj} (e : h.get? a = some oe) : ObjOk P w H h a (EX oe a) := ⟨e, e, ⟨oe, e⟩, fun h1 h2 z k => k _ z⟩
section
variable {X : Cx} {pins : List (Addr × Obj)} {σ : L2.St} {H : Hp} {s sI : Shared} {a : Addr} {oe : Obj}
theorem Inv.keepE (J : Inv X pins σ H sI) (J4 : Inv X pins σ H s) (hn : sI.heap.get? a = none) (ha : H a = none) (hx : X.ex = []) (he : s.heap.get? a = some oe) : Inv X pins σ (upd H a (EX oe a)) s := by
  have n0 : ∀ b o, X.s_0.heap.get? b = some o → b ≠ a := fun b o e z => by
    obtain ⟨o', e'⟩ := J.base.there b o e (by rw [hx]; exact fun z => nomatch z)
    rw [z, hn] at e'; cases e'
  have hne : ∀ {b : Addr} {u : HO}, H b = some u → b ≠ a := fun {b u} e z => by rw [z, ha] at e; cases e
  have nL : X.env.locals ≠ a := fun z => by
    obtain ⟨m, ⟨o, _, _, e, _⟩, _⟩ := J.loc
    rw [z, hn] at e; cases e
  have nC : ∀ x c, X.env.cells.lookup x = some c → c ≠ a := fun x c e z => by
    obtain ⟨v, o, e', _⟩ := J.cell x c e
    rw [z, hn] at e'; cases e'
  refine ⟨J4.ok, J4.os, J4.bare, ⟨J4.base.keep, J4.base.slot, fun b o e n hx' => ?_, J4.base.there, fun b xs e => ?_, fun b o u e => ?_, fun b ps e => ?_⟩, J4.loc, J4.cell, by rw [upd_ne nL]; exact J4.free, fun x c e => by rw [upd_ne (nC x c e)]; exact J4.freeC x c e, fun p hp => ?_, fun b u e => ?_, J4.len⟩
  · rw [upd_ne (n0 b o e)]
    exact J4.base.free b o e n hx'
  · have q := J4.base.tups b xs e
    rw [upd_ne (hne q)]; exact q
  · have q := J4.base.frzs b o u e
    rw [upd_ne (hne q)]; exact q
  · obtain ⟨more, q⟩ := J4.base.tbls b ps e
    exact ⟨more, by rw [upd_ne (hne q)]; exact q⟩
  · obtain ⟨h1, h2, h3, h4, h5⟩ := J4.pin p hp
    have np : p.1 ≠ a := fun z => by
      have q := (J.pin p hp).1
      rw [z, hn] at q; cases q
    exact ⟨h1, by rw [upd_ne np]; exact h2, h3, h4, h5⟩
  · by_cases hb : b = a
    · subst hb
      rw [upd_same] at e
      cases e
      exact ex_ok he
    · rw [upd_ne hb] at e
      refine (J4.hok b u e).stay (fun _ _ _ q => q) (fun c q => ?_) fun c xs q => ?_
      · rw [upd_ne (hne q)]; exact q
      · rw [upd_ne (hne q)]; exact q
theorem Inv.suiteE (I : Inv X pins σ H s) : Inv (X.suite a (X.pn ++ pins)) [] σ H s :=
  ⟨I.ok.suite _ _, I.os, I.bare, I.base, I.loc, I.cell, I.free, I.freeC, fun p hp => I.pin p (by rw [List.append_nil] at hp; exact hp), I.hok, I.len⟩
theorem Inv.unsuiteE {pn' : List (Addr × Obj)} (I : Inv (X.suite a (X.pn ++ pins)) pn' σ H s) (ok : X.Ok) : Inv X pins σ H s :=
  ⟨ok, I.os, I.bare, I.base, I.loc, I.cell, I.free, I.freeC, fun p hp => I.pin p (List.mem_append_left _ hp), I.hok, I.len⟩
end
/-- what the clause 'except x as n' wishes; the exception is kept -/
def wAsK (K : PySem.W.Frag) (c : Value) (i : Nat) (ts : TS) (Wout : WX) (D : Ends) : WX := fun cls d σ H =>
  ∃ b, PySem.W.exmOne K cls c = some b ∧ (b = true → ∀ a oe, H a = none → Zc cls d oe → (∃ vs, oe.data = .fields vs) → ts { nx := fun σ' H' => D.nx (σ'.set i none) H', rt := D.rt, bk := fun σ' H' => D.bk (σ'.set i none) H', ct := fun σ' H' => D.ct (σ'.set i none) H' } (σ.set i (some (.ref a))) (upd H a (EX oe a))) ∧
    (b = false → Wout cls d σ H)
section
variable {X : Cx} {x n : Str} {c : Value} {i : Nat} {body suite : List Stmt} {b₀ : Stmt} {np pos pos' : Pos} {tb : WX → TS} {ts : TS} {Wout : WX}
theorem ps_tryK (hx0 : X.ex = []) (hs : X.stack = X.env :: X.outer) (hf : X.env.frame = some X.env.locals) (hN : X.N.Nodup) (hi : X.N[i]? = some n) (hln : X.env.kindOf n = some .local) (hc : Names X x c) (tk : Takes X Wout)
    (hb : ∀ (W : WX) (pn : List (Addr × Obj)) (xe : Value → Shared → Prop), Takes (X.tr pn xe) W → PassesOwn (model X.prog X.w) X.A X.env xe → PSs (X.tr pn xe) body (tb W))
    (hsu : ∀ (a : Addr) (pn : List (Addr × Obj)), PSs (X.suite a pn) (b₀ :: suite) ts) :
    PS X (.Try body [.ExceptHandler (some (.Name x np)) (some n) (b₀ :: suite) pos'] [] [] pos) (fun D σ H => tb (wAsK X.K c i ts Wout D) D σ H) := by
  refine ⟨fun pins s σ H D I h => ?_⟩
  have ok := I.ok
  have hfr : X.A.frames = some (X.env :: X.outer) := by rw [ok.frames, hs]
  have hloc : Loc X.env.scope n := .inl hln
  refine wpAny_Try_except ?_
  refine wpAny_mono ((hb (wAsK X.K c i ts Wout D) (X.pn ++ pins) (fun e s₁ => wpAny (model X.prog X.w) X.A (noteFrame e X.env) (fun _ s₂ => wpAny (model X.prog X.w) X.A (setFlight e none) (fun _ s₃ =>
    wpAny (model X.prog X.w) X.A (handleBy e X.env [.ExceptHandler (some (.Name x np)) (some n) (b₀ :: suite) pos']) (SP X pins D) X.xe s₃) X.xe s₂) X.xe s₁) (fun u s' xx => ?_) PassesOwn.looking).run [] s σ H D (I.toTry _) h) (fun f s1 hsp => ?_) (fun e s1 he => he)
  · -- the catch
    obtain ⟨a, B, sI, pins', σ', H', cls, d, rfl, J', nb, up, sky, na, os, ag, b, hb1, hyes, hno⟩ := xx
    have J : Inv X pins σ' H' sI := J'.ofTry ok
    have sky' : Sky B (X.env :: X.outer) a (Zc cls d) X.env.locals s'.heap := by rw [← hs]; exact sky
    show wpAny (model X.prog X.w) X.A (noteFrame (.ref a) X.env) _ _ _
    refine Sky.land Zc.steady hfr hf sky' fun h3 fl3 up3 => ?_
    have J3 : Inv X pins σ' H' { s' with heap := h3 } := J.landed nb fl3.1 (up.trans up3) os ag
    obtain ⟨oe3, vs3, he3, hz3, hd3⟩ := fl3.there
    have notFr : ∀ {h : Heap} {o : Obj} {vs : Array Value}, h.FunFrames B (X.env :: X.outer) → h.get? a = some o → o.data = .fields vs → a ∉ frs (X.env :: X.outer) := fun {h o vs} ff e dd hm => by
      obtain ⟨_, o', e', hnf⟩ := ff.mem hm
      rw [e] at e'; cases e'
      exact hnf _ dd
    have nfr := notFr fl3.2.2.1 he3 hd3
    have nL : a ≠ X.env.locals := fun z => nfr (List.mem_filterMap.mpr ⟨X.env, List.mem_cons_self, by rw [hf, z]⟩)
    have nF : a ∉ X.fs := fun hm => by
      obtain ⟨e, he, q⟩ := List.mem_filterMap.mp hm
      exact nfr (List.mem_filterMap.mpr ⟨e, List.mem_cons_of_mem _ he, q⟩)
    have hnI : sI.heap.get? a = none := by
      cases e : sI.heap.get? a with
      | none => rfl
      | some o =>
        have q := nb a o e (by rw [hs]; exact nfr)
        rw [fl3.2.1] at q; cases q
    have S3 := J3.suite he3 hd3 na nL nF
    refine wpAny_handleBy_cons (codeAny_handlers_test ?_) (by intro q; cases q)
    have LT : PySem.W.Looks (model X.prog X.w) h3 (typeOf (.ref a)) cls := fun A Q E s k q => wpAny_typeOf_ref (k _ _ he3) (by rw [hz3.1]; exact q)
    have LM := PySem.W.exm_one (M := model X.prog X.w) (J3.kIn) LT hb1
    have test : ∀ {Q : Value → Shared → Prop} {E : Value → Shared → Prop}, Q c { s' with heap := h3 } → wpAny (model X.prog X.w) (X.A.mark (some (.ref a))) (eval (.Name x np) X.env) Q E { s' with heap := h3 } := fun {Q E} q => by
      obtain ⟨hg, hdbg, hm | ⟨hm, hv, hnn⟩⟩ := hc
      · exact ld_glob (X := X.suite a ((a, oe3) :: (X.pn ++ pins))) S3 hg hm q hdbg
      · exact ld_blt (X := X.suite a ((a, oe3) :: (X.pn ++ pins))) S3 hg hm hv q hnn hdbg
    refine test (LM.here ?_)
    cases b with
    | true =>
      refine codeAny_handlers_suite_as ?_
      refine HandSPX.lands_againZ fl3 fun h4 fl4 up4 => ?_
      have J4 : Inv X pins σ' H' { s' with heap := h4 } := J.landed nb fl4.1 ((up.trans up3).trans up4) os ag
      obtain ⟨oe4, vs4, he4, hz4, hd4⟩ := fl4.there
      have JK : Inv X pins σ' (upd H' a (EX oe4 a)) { s' with heap := h4 } := Sh.Inv.keepE J J4 hnI na hx0 he4
      have S4 : Inv (X.suite a (X.pn ++ pins)) [] σ' (upd H' a (EX oe4 a)) { s' with heap := h4 } := Sh.Inv.suiteE JK
      refine store_ok (X := X.suite a (X.pn ++ pins)) (v := .ref a) S4 hN hi hloc rfl (fun s5 S5 => ?_) (.inr hln)
      refine wpAny_mono ((hsu a (X.pn ++ pins)).run [] s5 _ _ _ S5 (hyes rfl a oe4 na hz4 ⟨_, hd4⟩)) (fun f s6 hsp => ?_) (fun _ _ z => False.elim z)
      have end_ : ∀ {σ6 : L2.St} {H6 : Hp} {Q : Shared → Prop}, Inv (X.suite a (X.pn ++ pins)) [] σ6 H6 s6 → (∀ s7, Inv X pins (σ6.set i none) H6 s7 → Q s7) →
          wpAny (model X.prog X.w) X.A (do bindName X.env n .none; unbindBehindTheSuite X.env n pos') (fun _ s7 => Q s7) X.xe s6 := fun {σ6 H6 Q} S6 hq => gone_ok (Sh.Inv.unsuiteE S6 ok) hN hi hln hq
      cases f with
      | next =>
        obtain ⟨σ6, H6, S6, q6⟩ := hsp
        exact end_ S6 fun s7 J7 => ⟨_, _, J7, q6⟩
      | brk =>
        obtain ⟨σ6, H6, S6, q6⟩ := hsp
        exact end_ S6 fun s7 J7 => ⟨_, _, J7, q6⟩
      | cont =>
        obtain ⟨σ6, H6, S6, q6⟩ := hsp
        exact end_ S6 fun s7 J7 => ⟨_, _, J7, q6⟩
      | ret u =>
        obtain ⟨v6, σ6, H6, S6, r6, q6⟩ := hsp
        exact end_ S6 fun s7 J7 => ⟨_, _, _, J7, r6, q6⟩
    | false =>
      show wpAny _ X.A (handleBy (.ref a) X.env []) _ _ _
      refine wpAny_handleBy_nil ?_
      obtain ⟨k1, k2, k3, oe, vs, T, oT, ts', he, hz, hd, h1, hr⟩ := id fl3
      unfold PySem.passOn
      refine wpAny_bind (wpAny_field he hd h1 ?_)
      rw [if_neg (show ¬ ((Value.ref T == Value.none) = true) from by simp)]
      have fin : wpAny (model X.prog X.w) X.A (setFlight (.ref a) X.env.frame) (fun _ s4 => wpAny (model X.prog X.w) X.A (throw (.ref a) : Sem Flow) (SP X pins D) X.xe s4) X.xe { s' with heap := h3 } := by
        rw [hf]
        refine HandSPX.setFlight_upZ fl3 fun h4 hh4 up4 => wpAny_throw (tk _ _ ?_)
        exact ⟨a, B, sI, pins, σ', H', cls, d, rfl, J, nb, (up.trans up3).trans up4, .inr (.inr (by rw [hs]; exact hh4)), na, os, ag, hno rfl⟩
      first
        | exact wpAny_bind (wpAny_pure (wpAny_bind fin))
        | exact wpAny_bind fin
  · cases f with
    | next =>
      obtain ⟨σ', H', J', q⟩ := hsp
      exact wpAny_execs_nil ⟨σ', H', J'.ofTry ok, q⟩
    | brk =>
      obtain ⟨σ', H', J', q⟩ := hsp
      exact ⟨σ', H', J'.ofTry ok, q⟩
    | cont =>
      obtain ⟨σ', H', J', q⟩ := hsp
      exact ⟨σ', H', J'.ofTry ok, q⟩
    | ret u =>
      obtain ⟨v, σ', H', J', r, q⟩ := hsp
      exact ⟨v, σ', H', J'.ofTry ok, r, q⟩
end
end Sh
namespace Sh
open PySem PySem.Spec PySem.Calls PyProof.Rows L2
/-! ### a kept exception's field, its kinds -/
def tFldE (K : PySem.W.Frag) (n : Str) (te : TE) : TE := fun σ H Q => te σ H fun x H1 => ∃ (a C dd : Addr) (oe : Obj) (u : HO) (fs : List (Str × V)) (v : V), x = .ref a ∧ H1 a = some (.frz oe u) ∧ Zc (.ref C) (some dd) oe ∧ (∃ vs, oe.data = .fields vs) ∧ XfC K C ∧ PySem.W.findIn K (.ref C) n = some none ∧
  H1 dd = some (.xd fs) ∧ fs.lookup n = some v ∧ Q v H1
theorem g_fldE {X : Cx} {K : PySem.W.Frag} (hK : X.K = K) {e : Expr} {te : TE} {pos : Pos} {n : Str} (he : PE X e te) (hb : attributeBase e n X.env (eval e X.env) = eval e X.env := by rfl) : PE X (.Attribute e n pos) (tFldE K n te) := by
  subst hK
  refine ⟨fun pins s σ H Q I h => ?_⟩
  refine attr_of hb (thn (he.run pins s σ H _ I h) fun u s1 hh => ?_)
  obtain ⟨x, H1, I1, rx, a, C, dd, oe, uo, fs, v, ex, hea, hz, hf, T, hno, ea, l, q⟩ := hh
  subst ex
  obtain rfl : u = Value.ref a := rx
  obtain ⟨ha, _⟩ := (show ObjOk X.prog X.w H1 s1.heap a (.frz oe uo) from I1.hok a _ hea)
  obtain ⟨vs, hd⟩ := hf
  have hx : ObjOk X.prog X.w H1 s1.heap dd (.xd fs) := I1.hok dd _ ea
  obtain ⟨mA, hns, hr⟩ := hx
  obtain ⟨od, ho, hl⟩ := lookIn_ns hns
  obtain ⟨u, hu, ru⟩ := RelO.some_of (v := v) (o := mA n) (by rw [← l]; exact hr n)
  have J : PySem.W.InstAt s1.heap a oe C (some od) := ⟨ha, hz.1, by unfold PySem.W.notCls; rw [hd] <;> rfl, by rw [hz.2]; exact ho⟩
  exact HandSPX.exc_get I1.kIn J T.ga T.gg T.exC (PySem.W.findObj_own T.hdC hno rfl (by rw [hl, hu])) (handed_of ru) ⟨v, H1, I1.tok _, ru, q⟩
def ExIs (K : PySem.W.Frag) (H : Hp) (a D : Addr) : Prop := ∃ (dd : Addr) (oe : Obj) (u : HO) (fs : List (Str × V)), H a = some (.frz oe u) ∧ Zc (.ref D) (some dd) oe ∧ (∃ vs, oe.data = .fields vs) ∧ H dd = some (.xd fs) ∧ ExcC K D
def rIsiX (K : PySem.W.Frag) : List V → Hp → VK → Prop := fun xs H Q => ∃ (a D : Addr) (c : V) (cv : Value) (b : Bool), xs = [.ref a, c] ∧ ClsV c cv ∧ ExIs K H a D ∧ PySem.W.kitOne K (.ref D) cv = some b ∧ Q (.bl b) H
def rIsiTX (K : PySem.W.Frag) : List V → Hp → VK → Prop := fun xs H Q => ∃ (a D tp : Addr) (cs : List V) (us : List Value) (b : Bool), xs = [.ref a, .ref tp] ∧ H tp = some (.tup cs) ∧ Paired ClsV cs us ∧ ExIs K H a D ∧ PySem.W.kitAny K (.ref D) us = some b ∧ Q (.bl b) H
section
variable {X : Cx}
theorem exis_kit {pins : List (Addr × Obj)} {σ : L2.St} {H : Hp} {s : Shared} {a D : Addr} (I : Inv X pins σ H s) (h : ExIs X.K H a D) : ∃ P : Heap → Prop, PySem.W.KitX X.K (.ref a) (.ref D) P ∧ P s.heap := by
  obtain ⟨dd, oe, u, fs, hea, hz, ⟨vs, hd⟩, ea, C⟩ := h
  obtain ⟨ha, _⟩ := (show ObjOk X.prog X.w H s.heap a (.frz oe u) from I.hok a _ hea)
  have hx : ObjOk X.prog X.w H s.heap dd (.xd fs) := I.hok dd _ ea
  obtain ⟨mA, hns, hr⟩ := hx
  obtain ⟨od, ho, hl⟩ := lookIn_ns hns
  have J : PySem.W.InstAt s.heap a oe D (some od) := ⟨ha, hz.1, by unfold PySem.W.notCls; rw [hd] <;> rfl, by rw [hz.2]; exact ho⟩
  exact ⟨_, PySem.W.kitx_exc (by obtain ⟨cd, hc, _⟩ := PySem.W.any_some C.hd; rw [hc]; rfl) C.hg C.hk C.hs C.ha C.hn C.ht C.hm, J⟩
theorem call_isiX : CallR X (.builtin "isinstance") (rIsiX X.K) := by
  intro pins s σ H xs us Q I r h
  obtain ⟨a, D, c, cv, b, rfl, k, ex, e, q⟩ := h
  obtain ⟨u1, u2, rfl, r1, r2⟩ := vals2 r
  have e2 := k.eq r2
  subst e2
  cases (show u1 = Value.ref a from r1)
  obtain ⟨P, Z, p⟩ := exis_kit I ex
  exact PySem.W.kia_one Z I.kIn p e (fun z => nomatch z) fun tk => ⟨.bl b, H, I.tok tk, rfl, q⟩
theorem call_isiTX : CallR X (.builtin "isinstance") (rIsiTX X.K) := by
  intro pins s σ H xs us Q I r h
  obtain ⟨a, D, tp, cs, ws, b, rfl, hT, k, ex, e, q⟩ := h
  obtain ⟨u1, u2, rfl, r1, r2⟩ := vals2 r
  cases (show u1 = Value.ref a from r1)
  cases (show u2 = Value.ref tp from r2)
  obtain ⟨P, Z, p⟩ := exis_kit I ex
  obtain ⟨_, its, rv, o, h1, h2, n, h3⟩ := (show ObjOk X.prog X.w H s.heap tp (.tup cs) from I.hok tp _ hT)
  have e3 := ClsV.all k rv
  subst e3
  obtain ⟨oc, od, dt, sl⟩ := o
  simp only at h2 h3
  subst h2 h3
  exact PySem.W.kia_tup Z I.kIn p h1 e (fun z => nomatch z) fun tk => ⟨.bl b, H, I.tok tk, rfl, q⟩
end
def rIsiE (K : PySem.W.Frag) : List V → Hp → VK → Prop := fun xs H Q => rIsi K xs H Q ∨ rIsiX K xs H Q
def rIsiTE (K : PySem.W.Frag) : List V → Hp → VK → Prop := fun xs H Q => rIsiT K xs H Q ∨ rIsiTX K xs H Q
theorem g_isiE {X : Cx} {K : PySem.W.Frag} (hK : X.K = K) : CallR X (.builtin "isinstance") (rIsiE K) := by subst hK; exact call_isi.or call_isiX
theorem g_isiTE {X : Cx} {K : PySem.W.Frag} (hK : X.K = K) : CallR X (.builtin "isinstance") (rIsiTE K) := by subst hK; exact call_isiT.or call_isiTX
/-- a value's class -/
inductive ClsD (K : PySem.W.Frag) : D → Value → Prop
  | kind {d : D} {s : String} (h : d.kind = some s) : ClsD K d (.type s)
  | exc {C : Addr} {fs : List (Str × D)} (h : ExcC K C) : ClsD K (.exc C fs) (.ref C)
/-- a class as data -/
inductive ClsC : D → V → Value → Prop
  | ty (n : String) : ClsC (.ty n) (.ty n) (.type n)
  | own (C : Addr) : ClsC (.ref C) (.ref C) (.ref C)
theorem c_isiE {K : PySem.W.Frag} {d c : D} {vc : V} {t cv : Value} {r : Bool} (h : ClsD K d t) (hc : ClsC c vc cv) (hk : PySem.W.kitOne K t cv = some r) : ClD K (rIsiE K) [d, c] (.bl r) := fun N b H vs Q hN l rr k => by
  cases rr with
  | cons r1 r2 =>
    cases r2 with
    | cons r2 r3 =>
      cases r3
      have cc : ∀ v, Rp K (msk N H) v c → v = vc ∧ ClsV vc cv := fun v q => by
        cases hc with
        | ty n => cases q; exact ⟨rfl, .ty n⟩
        | own C => cases q; exact ⟨rfl, .own C⟩
      obtain ⟨e2, cl⟩ := cc _ r2
      subst e2
      cases h with
      | kind h => exact .inl ⟨_, _, _, _, r, rfl, cl, (r1.mono msk_all).tyX h, hk, k _ _ _ rfl (Ext.refl H) l (.bl _)⟩
      | exc h =>
        cases r1 with
        | exc h1 z f x q => exact .inr ⟨_, _, _, _, r, rfl, cl, ⟨_, _, _, _, (msk_of h1).2, z, f, (msk_of x).2, h⟩, hk, k _ _ _ rfl (Ext.refl H) l (.bl _)⟩
def tKs : List V → TA
  | [] => tNil
  | v :: vs => tCons (tC v) (tKs vs)
theorem tKs_run : ∀ (vs : List V) (σ : L2.St) (H : Hp) (Q : List V → Hp → Prop), Q vs H → tKs vs σ H Q
  | [], _, _, _, h => h
  | v :: vs, σ, H, Q, h => tKs_run vs σ H (fun xs H1 => Q (v :: xs) H1) h
theorem ev_isiTE {G : Gx} {p : Bool} {b b' : Nat} {te : TE} {ds : List Sd} {d : D} {t : Value} {r : Bool} (cs : List V) {cvs : List Value} (h : EvD G false b b' te ds d) (hd : ClsD G.K d t) (hcs : Paired ClsV cs cvs) (hk : PySem.W.kitAny G.K t cvs = some r) (hl : cs.length ≤ 1000 := by decide) :
    EvD G p b b' (tCB (rIsiTE G.K) (tCons te (tCons (tTup (tKs cs)) tNil))) ds (.bl r) := fun gs M H σ S Q k =>
  h gs M H σ S _ fun v d' H1 e e1 l1 rp => by
    subst e
    refine tKs_run cs σ H1 _ ⟨by rw [sizeLine_eq]; omega, fun a ha => ?_⟩
    have e2 : Ext H1 (upd H1 a (.tup cs)) := Ext.new ha
    have fin : Q (.bl r) (upd H1 a (.tup cs)) := k _ _ _ rfl (e1.trans e2) (l1.upd fun _ z => nomatch z) (.bl _)
    have rp2 := (rp.mono msk_all).mono e2.toKp
    cases hd with
    | kind hd => exact .inl ⟨v, a, cs, _, cvs, r, rfl, upd_same, hcs, rp2.tyX hd, hk, fin⟩
    | exc hd =>
      cases rp2 with
      | exc h1 z f x q => exact .inr ⟨_, _, a, cs, cvs, r, rfl, upd_same, hcs, ⟨_, _, _, _, h1, z, f, x, hd⟩, hk, fin⟩
theorem RpF.look {K : PySem.W.Frag} {H : Hp} {n : Str} {d : D} : ∀ {fs : List (Str × V)} {ds : List (Str × D)}, RpF K H fs ds → ds.lookup n = some d → ∃ v, fs.lookup n = some v ∧ Rp K H v d
  | _, _, .nil, h => by cases h
  | _, _, .cons (k := k) p q, h => by
    by_cases e : n = k
    · subst e
      simp [List.lookup] at h
      subst h
      exact ⟨_, by simp [List.lookup], p⟩
    · have e' : (n == k) = false := by simpa using e
      simp only [List.lookup, e'] at h
      obtain ⟨v, h1, h2⟩ := RpF.look q h
      exact ⟨v, by simp only [List.lookup, e']; exact h1, h2⟩
theorem ev_fldE {G : Gx} {p : Bool} {b b' : Nat} {te : TE} {ds : List Sd} {C : Addr} {fs : List (Str × D)} {n : Str} {d : D} (h : EvD G p b b' te ds (.exc C fs)) (T : XfC G.K C) (hno : PySem.W.findIn G.K (.ref C) n = some none) (hl : fs.lookup n = some d) : EvD G p b b' (tFldE G.K n te) ds d := fun gs M H σ S Q k =>
  h gs M H σ S _ fun v d' H1 e e1 l1 rp => by
    subst e
    cases rp with
    | exc h1 z f x q =>
      obtain ⟨w, h2, h3⟩ := q.look hl
      exact ⟨_, _, _, _, _, _, w, rfl, (msk_of h1).2, z, f, T, hno, (msk_of x).2, h2, k _ _ _ rfl e1 l1 h3⟩
/-! ### raise C(e), C with one field -/
def sp1 (K : PySem.W.Frag) (f : Str) : Sp := fun vs H Q _ => ∃ (a C : Addr) (y : V), vs = [.ref a, y] ∧ H a = some (exo a C none) ∧ OexC K C ∧ PySem.W.findIn K (.ref C) f = some none ∧ ∀ dx, H dx = none → dx ≠ a → Q .non (upd (upd H dx (exd dx [(f, y)])) a (exo a C (some dx)))
section
variable {P : Program} {w : World} {K : PySem.W.Frag} {mg : Str → Option Value} {base : Heap} {k : Nat} {f : Addr} {fd : FuncData}
theorem init1_fn {x qual fl : Str} {st : Stmt} (U : Fun K x qual st f fd) (S : FnScope ["self", fl] ["self", fl] (defScope st))
    (hbody : ∀ (cdv : Value) (A : Around) (outer : List Env) (s : Shared) (H : Hp) (E : XK), PSs (cxOf (L2.CX P w) P w K mg base ["self", fl] qual (defScope st) f cdv A outer s H E) (defBody st) (tOst K fl (tVar 0) (tVar 1))) :
    FnOk P w K mg base (L2.CX P w) 1 f fd ["self", fl] (sp1 K fl) := by
  obtain ⟨oc, od, kV, doc, pm, an, cdv, ct, osl, rfl, lk, hcd⟩ := U.ex
  refine fn_of lk hcd S (fun vs H Q E ⟨a, C, y, e, _⟩ => by rw [e]; rfl) fun A outer s H vs Q E hr hsp => ?_
  obtain ⟨a, C, y, rfl, h1, h2, h3, h4⟩ := hsp
  exact ⟨_, hbody cdv A outer s H E, y, rfl, .ref a, rfl, a, C, rfl, h2, h3, .inl ⟨h1, h4⟩⟩
end
def tRaise1 (K : PySem.W.Frag) (C : Addr) (f : Str) (W : WX) (ta : TA) : TS := fun _ σ H => tMkO C (sp1 K f) [] ta σ H fun cls d H' => W cls d σ H'
/-- what is known of a class X(e) with one field -/
structure Ex1 (P : Program) (w : World) (K : PySem.W.Frag) (mg : Str → Option Value) (base : Heap) (C fI : Addr) (fd : FuncData) (f : Str) : Prop where
  oex : OexC K C
  nof : PySem.W.findIn K (.ref C) f = some none
  iC : PySem.W.findIn K (.ref C) "__init__" = some (some (.ref fI))
  tI : PySem.W.typeIn K (.ref fI) = some (.type "function")
  bI : Binds K fd ["self", f] []
  F : FnOk P w K mg base (L2.CX P w) 1 fI fd ["self", f] (sp1 K f)
theorem g_raise1 {X : Cx} {K : PySem.W.Frag} (hK : X.K = K) {C fI : Addr} {fd : FuncData} {f x : Str} {e : Expr} {te : TE} {W : WX} {p pos pos2 : Pos} (hc : X.calm = true) (T : Ex1 X.prog X.w K X.mg X.base C fI fd f) (hr : Room 2 X.A) (tk : Takes X W) (hg : Gl X x) (hm : X.mg x = some (.ref C)) (he : PE X e te)
    (hdb : (x == ("__debug__" : Str)) = false := by decide) (hse : starEach (e :: []) X.env = (false, eval e X.env) :: starEach [] X.env := by rfl) (hpl : (backTo pos (starEach [] X.env)).any (·.1) = false := by rfl) :
    PS X (.Raise (some (.Call (.Name x p) [e] [] pos)) none pos2) (tRaise1 K C f W (tCons te tNil)) := by
  subst hK
  exact ps_raise hc tk (pmk_oex (CX := L2.CX X.prog X.w) T.oex T.iC T.tI T.F hr T.bI .nil (fun pins σ H s e s' I c => pass_never σ pins H s e s' I c) hg hm (pa_cons he pa_nil hse) hdb hse hpl)
end Sh
namespace Sh
open PySem PySem.Spec PySem.Calls PyProof.Rows L2
theorem raise_heap {H1 : Hp} {a dx : Addr} {C : Addr} {f : Str} {v : V} (ha : H1 a = none) (hd : (upd H1 a (exo a C none)) dx = none) (ne : dx ≠ a) :
    upd (del (upd (upd (upd H1 a (exo a C none)) dx (exd dx [(f, v)])) a (exo a C (some dx))) a) dx (.xd [(f, v)]) = upd H1 dx (.xd [(f, v)]) := by
  funext b
  by_cases h1 : b = dx
  · rw [h1, upd_same, upd_same]
  · rw [upd_ne h1, upd_ne h1]
    by_cases h2 : b = a
    · rw [h2, del_same, ha]
    · rw [del_ne h2, upd_ne h2, upd_ne h1, upd_ne h2]
theorem w_raise1 {G : Gx} {b b' : Nat} {te : TE} {ds : List Sd} {E : DE} {C : Addr} {f : Str} {x : D} (acc : G.Acc) (ho : OexC G.K C) (hno : PySem.W.findIn G.K (.ref C) f = some none) (h : EvD G G.pm b b' te ds x) (hx : G.X C [(f, x)] ds b') : Wt G b (tRaise1 G.K C f G.W (tCons te tNil)) ds E := fun gs M H σ S Dn w => by
  refine h gs M H σ S _ fun v d H1 r e l rp => ?_
  subst r
  refine ⟨by show 1 ≤ 1000; decide, fun a ha => ⟨a, C, v, rfl, upd_same, ho, hno, fun dx hd ne => ⟨rfl, dx, [(f, v)], upd_same, ?_, ?_, ?_⟩⟩⟩
  · rw [upd_ne ne, upd_same]
  · rw [upd_ne ne] at hd; exact hd
  · have hd1 : H1 dx = none := by rw [upd_ne ne] at hd; exact hd
    show G.W (.ref C) (some dx) σ _
    rw [raise_heap ha hd ne]
    have S1 := S.step e l
    have e2 : Ext H1 (upd H1 dx (.xd [(f, v)])) := Ext.new hd1
    exact acc gs M b' _ σ ds C dx [(f, v)] [(f, d)] (S1.step e2 (l.upd fun _ z => nomatch z)) upd_same (S1.ext.free hd1) (fun z => S1.liv dx z hd1) (.cons (rp.mono (msk_mono e2.toKp)) .nil) hx
/-! ### try .. except C as e: .. -/
section
variable {K : PySem.W.Frag} {H0 H H' : Hp} {M0 M M' : Addr → Prop} {b b' : Nat} {σ σ' : List (Option V)} {ds ds' : List Sd} {gs gs' : List (V × D)}
theorem Stt.noGh (S : Stt K H0 M0 gs M b H σ ds) : Stt K H0 M0 [] M b H σ ds := ⟨S.ext, S.m0, S.new, S.liv, S.lim, S.len, S.sl, S.inj, S.ownNew, fun q hq => by cases hq⟩
/-- what is entered here -/
theorem Stt.enter (S : Stt K H0 M0 gs M b H σ ds) (no : ∀ s ∈ ds, isOwn s = false) : Stt K H M [] M b H σ ds :=
  ⟨Ext.refl H, fun _ h => h, fun a h n => absurd h n, S.liv, S.lim, S.len, S.sl, S.inj, (fun j c ⟨_, s, _, h2, h3⟩ => by have q := adr_own h3; rw [no s (List.mem_of_getElem? h2)] at q; cases q), fun q hq => by cases hq⟩
theorem Stt.under (S : Stt K H0 M0 gs M b H σ ds) (S' : Stt K H M gs' M' b' H' σ' ds') : Stt K H0 M0 gs M' b' H' σ' ds' :=
  ⟨S.ext.trans S'.ext, fun a h => S'.m0 a (S.m0 a h), fun a h n => by
    by_cases hm : M a
    · exact S.new a hm n
    · exact S.ext.free (S'.new a h hm), S'.liv, S'.lim, S'.len, S'.sl, S'.inj, fun j c h z => S'.ownNew j c h (S.m0 c z), fun q hq => (S.gh q hq).mono ⟨fun a o h n => by
      obtain ⟨h1, h2⟩ := msk_of h
      rw [msk_no fun z => by have := S'.new a z h1; rw [this] at h2; cases h2]
      exact S'.ext.keep a o h2 n, fun a n h => by
      obtain ⟨h1, h2⟩ := msk_of h
      obtain ⟨m, q⟩ := S'.ext.pz a n h2
      exact ⟨m, by rw [msk_no fun z => by have := S'.new a z h1; rw [this] at h2; unfold PurseO at h2; cases h2]; exact q⟩⟩⟩
end
/-- try: .. except c as slot i: .. -/
def tTryK (K : PySem.W.Frag) (c : Value) (i : Nat) (tb : WX → TS) (ts : TS) (Wout : WX) : TS := fun D σ H => tb (wAsK K c i ts Wout D) D σ H
theorem g_tryK {X : Cx} {K : PySem.W.Frag} (hK : X.K = K) {x n : Str} {c : Value} {i : Nat} {body suite : List Stmt} {b₀ : Stmt} {np pos pos' : Pos} {tb : WX → TS} {ts : TS} {Wout : WX} (hx0 : X.ex = []) (hs : X.stack = X.env :: X.outer) (hf : X.env.frame = some X.env.locals) (hN : X.N.Nodup) (hi : X.N[i]? = some n) (hln : X.env.kindOf n = some .local) (hc : Names X x c) (tk : Takes X Wout)
    (hb : ∀ (W : WX) (pn : List (Addr × Obj)) (xe : Value → Shared → Prop), Takes (X.tr pn xe) W → PassesOwn (model X.prog X.w) X.A X.env xe → PSs (X.tr pn xe) body (tb W))
    (hsu : ∀ (a : Addr) (pn : List (Addr × Obj)), PSs (X.suite a pn) (b₀ :: suite) ts) :
    PS X (.Try body [.ExceptHandler (some (.Name x np)) (some n) (b₀ :: suite) pos'] [] [] pos) (tTryK K c i tb ts Wout) := by
  subst hK
  exact ps_tryK hx0 hs hf hN hi hln hc tk hb hsu
theorem w_tryK {G : Gx} {b : Nat} {ds : List Sd} {E : DE} {c : Value} {i : Nat} {tb : WX → TS} {ts : TS} {Wout : WX} (HX : Addr → List (Str × D) → List Sd → Nat → Prop) (no : ∀ s ∈ ds, isOwn s = false) (ho : E.ro = false)
    (h : ∀ (W : WX) (H : Hp) (M : Addr → Prop), (⟨G.K, H, M, W, HX, true⟩ : Gx).Acc → Wt ⟨G.K, H, M, W, HX, true⟩ b (tb W) ds E)
    (hH : ∀ C fs ds' b', HX C fs ds' b' → PySem.W.exmOne G.K (.ref C) c = some true ∧ Wt G b' ts (ds'.set i (.dat (.exc C fs))) { nx := fun ds b => E.nx (ds.set i .un) b, rt := E.rt, bk := fun ds b => E.bk (ds.set i .un) b, ct := fun ds b => E.ct (ds.set i .un) b, ro := E.ro, ro2 := E.ro2 }) :
    Wt G b (tTryK G.K c i tb ts Wout) ds E := fun gs M H σ S Dn w => by
  have S0 := S.enter no
  refine h (wAsK G.K c i ts Wout Dn) H M (fun gs1 M1 b1 H1 σ1 ds1 C dd fsV fs S1 h1 h2 h3 h4 h5 => ?_) [] M H σ S0 Dn ⟨fun M' b' H' σ' ds' S' e => w.nx M' b' H' σ' ds' (S.under S') e, fun M' b' H' σ' ds' v d S' e r o => w.rt M' b' H' σ' ds' v d (S.under S') e (r.mono (msk_sub S.m0)) (fun z => by rw [ho] at z; cases z), fun M' b' H' σ' ds' S' e => w.bk M' b' H' σ' ds' (S.under S') e, fun M' b' H' σ' ds' S' e => w.ct M' b' H' σ' ds' (S.under S') e⟩
  obtain ⟨g1, g2⟩ := hH C fs ds1 b1 h5
  refine ⟨true, g1, fun _ a oe ha hz hf => ?_, fun z => nomatch z⟩
  have S2 := S.under S1
  have e2 : Ext H1 (upd H1 a (EX oe a)) := Ext.new ha
  have S3 := S2.step e2 (S2.lim.upd fun _ z => nomatch z)
  have ndd : dd ≠ a := fun z => by rw [z, ha] at h1; cases h1
  have rp : Rp G.K (msk M1 (upd H1 a (EX oe a))) (.ref a) (.exc C fs) := .exc (msk_new S2.liv ha) hz hf (by rw [msk_no h3, upd_ne ndd]; exact h1) (RpF.mono (msk_mono e2.toKp) h4)
  have S4 := S3.set (i := i) rp
  exact g2 gs M1 _ _ S4 _ ⟨fun M b H σ ds S e => w.nx M b H _ _ (S.forget i none) e, w.rt, fun M b H σ ds S e => w.bk M b H _ _ (S.forget i none) e, fun M b H σ ds S e => w.ct M b H _ _ (S.forget i none) e⟩
end Sh
namespace Sh
open PySem
/-- the n-th statement of a class's body -/
def clsStmt : Stmt → Nat → Stmt
  | .ClassDef _ _ _ body _ _ _ _ _ _ _, n => body.getD n (.Pass ⟨0, 0, 0, 0⟩)
  | s, _ => s
end Sh
namespace Sh
open PySem PySem.Spec PySem.Calls PyProof.Rows L2
theorem excc_xf {K : PySem.W.Frag} {C : Addr} (h : ExcC K C) : XfC K C := ⟨h.hg, h.hk, h.hs, h.hd⟩
end Sh
namespace Sh
open PySem PySem.Spec PySem.Calls PyProof.Rows L2
theorem ev_isiTN {G : Gx} {p : Bool} {b b' : Nat} {te : TE} {ds : List Sd} {d : D} {t : Value} (As : List Addr) (h : EvD G false b b' te ds d) (hd : ClsD G.K d t) (hk : ∀ A ∈ As, PySem.W.kitOne G.K t (.ref A) = some false) (hl : As.length ≤ 1000) :
    EvD G p b b' (tCB (rIsiTE G.K) (tCons te (tCons (tTup (tKs (As.map V.ref))) tNil))) ds (.bl false) := by
  have h1 : ∀ As : List Addr, Paired ClsV (As.map V.ref) (As.map Value.ref) := fun As => by
    induction As with
    | nil => exact .nil
    | cons a as ih => exact .cons (.own a) ih
  have h2 : ∀ As : List Addr, (∀ A ∈ As, PySem.W.kitOne G.K t (.ref A) = some false) → PySem.W.kitAny G.K t (As.map Value.ref) = some false := fun As => by
    induction As with
    | nil => intro _; exact kitAny_nil
    | cons a as ih => intro h; exact kitAny_cons (h a List.mem_cons_self) (fun _ => ih fun A hA => h A (List.mem_cons_of_mem _ hA)) fun z => nomatch z
  exact ev_isiTE _ h hd (h1 As) (h2 As hk) (by rw [List.length_map]; exact hl)
end Sh
namespace Sh
open PySem PySem.Spec PySem.Calls PyProof.Rows L2
/-! ### facts of classes -/
theorem kit_cls0 {K : PySem.W.Frag} {t : Value} {C : Addr} {r : Bool} (h1 : PySem.W.isClsIn K C = true) (h2 : PySem.W.typeIn K (.ref C) = some (.type "type")) (h3 : PySem.W.subIn K t (.ref C) = some r) : PySem.W.kitCls K t (.ref C) = some r := by
  have e2 : ((PySem.W.clsIn K C).isSome && PySem.W.typeIn K (.ref C) == some (.type "type")) = true := by
    have h2' : (PySem.W.clsIn K C).isSome = true := h1
    rw [h2', h2] <;> rfl
  show (if ((PySem.W.clsIn K C).isSome && PySem.W.typeIn K (.ref C) == some (.type "type")) = true then PySem.W.subIn K t (.ref C) else none) = some r
  rw [if_pos e2]
  exact h3
theorem kit_sub {K : PySem.W.Frag} {t : Value} {C : Addr} {r : Bool} (h1 : PySem.W.isClsIn K C = true) (h2 : PySem.W.typeIn K (.ref C) = some (.type "type")) (h4 : PySem.W.subIn K (.ref C) (.ref C) = some true) (h3 : PySem.W.subIn K t (.ref C) = some r) : PySem.W.kitOne K t (.ref C) = some r := by
  unfold PySem.W.kitOne
  by_cases e : (t == Value.ref C) = true
  · rw [if_pos e]
    have e2 := beq_iff_eq.mp e
    rw [e2, h4] at h3
    exact h3
  · rw [if_neg e]
    exact kit_cls0 h1 h2 h3
theorem kit_non {K : PySem.W.Frag} {C : Addr} (h1 : PySem.W.isClsIn K C = true) (h2 : PySem.W.typeIn K (.ref C) = some (.type "type")) : PySem.W.kitOne K (.type "NoneType") (.ref C) = some false := by
  have h3 : PySem.W.subIn K (.type "NoneType") (.ref C) = some false := by
    have e : PySem.fastBuiltinMro "NoneType" = some [.type "NoneType", .type "object"] := by decide +kernel
    show (PySem.fastBuiltinMro "NoneType").map (·.contains (Value.ref C)) = some false
    rw [e]
    rfl
  unfold PySem.W.kitOne
  rw [if_neg (show ¬ (Value.type "NoneType" == Value.ref C) = true from fun z => by cases (beq_iff_eq.mp z))]
  exact kit_cls0 h1 h2 h3
theorem kit_vE {K : PySem.W.Frag} {C : Addr} {r : Bool} (h : PySem.W.subIn K (.ref C) (.type "ValueError") = some r) : PySem.W.kitOne K (.ref C) (.type "ValueError") = some r := by
  have e : PySem.W.kitMeta "ValueError" = true := by decide +kernel
  unfold PySem.W.kitOne
  rw [if_neg (show ¬ (Value.ref C == Value.type "ValueError") = true from fun z => by cases (beq_iff_eq.mp z))]
  show (if PySem.W.kitMeta "ValueError" = true then PySem.W.subIn K (.ref C) (.type "ValueError") else none) = some r
  rw [if_pos e]
  exact h
end Sh

/-! Sh22: try with two except clauses, the exception kept. -/
namespace Sh
open PySem PySem.Spec PySem.Calls PyProof.Rows L2
section
variable {X : Cx} {x n x2 n2 : Str} {c c2 : Value} {i i2 : Nat} {body suite suite2 : List Stmt} {b₀ b₁ : Stmt} {np pos pos' np2 pos2 : Pos} {tb : WX → TS} {ts ts2 : TS} {Wout : WX}
theorem ps_tryK2 (hx0 : X.ex = []) (hs : X.stack = X.env :: X.outer) (hf : X.env.frame = some X.env.locals) (hN : X.N.Nodup) (hi : X.N[i]? = some n) (hln : X.env.kindOf n = some .local) (hc : Names X x c) (hi2 : X.N[i2]? = some n2) (hln2 : X.env.kindOf n2 = some .local) (hc2 : Names X x2 c2) (tk : Takes X Wout)
    (hb : ∀ (W : WX) (pn : List (Addr × Obj)) (xe : Value → Shared → Prop), Takes (X.tr pn xe) W → PassesOwn (model X.prog X.w) X.A X.env xe → PSs (X.tr pn xe) body (tb W))
    (hsu : ∀ (a : Addr) (pn : List (Addr × Obj)), PSs (X.suite a pn) (b₀ :: suite) ts) (hsu2 : ∀ (a : Addr) (pn : List (Addr × Obj)), PSs (X.suite a pn) (b₁ :: suite2) ts2) :
    PS X (.Try body [.ExceptHandler (some (.Name x np)) (some n) (b₀ :: suite) pos', .ExceptHandler (some (.Name x2 np2)) (some n2) (b₁ :: suite2) pos2] [] [] pos) (fun D σ H => tb (wAsK X.K c i ts (wAsK X.K c2 i2 ts2 Wout D) D) D σ H) := by
  refine ⟨fun pins s σ H D I h => ?_⟩
  have ok := I.ok
  have hfr : X.A.frames = some (X.env :: X.outer) := by rw [ok.frames, hs]
  have hloc : Loc X.env.scope n := .inl hln
  have hloc2 : Loc X.env.scope n2 := .inl hln2
  refine wpAny_Try_except ?_
  refine wpAny_mono ((hb (wAsK X.K c i ts (wAsK X.K c2 i2 ts2 Wout D) D) (X.pn ++ pins) (fun e s₁ => wpAny (model X.prog X.w) X.A (noteFrame e X.env) (fun _ s₂ => wpAny (model X.prog X.w) X.A (setFlight e none) (fun _ s₃ =>
    wpAny (model X.prog X.w) X.A (handleBy e X.env [.ExceptHandler (some (.Name x np)) (some n) (b₀ :: suite) pos', .ExceptHandler (some (.Name x2 np2)) (some n2) (b₁ :: suite2) pos2]) (SP X pins D) X.xe s₃) X.xe s₂) X.xe s₁) (fun u s' xx => ?_) PassesOwn.looking).run [] s σ H D (I.toTry _) h) (fun f s1 hsp => ?_) (fun e s1 he => he)
  · -- the catch
    obtain ⟨a, B, sI, pins', σ', H', cls, d, rfl, J', nb, up, sky, na, os, ag, b, hb1, hyes, hno⟩ := xx
    have J : Inv X pins σ' H' sI := J'.ofTry ok
    have sky' : Sky B (X.env :: X.outer) a (Zc cls d) X.env.locals s'.heap := by rw [← hs]; exact sky
    show wpAny (model X.prog X.w) X.A (noteFrame (.ref a) X.env) _ _ _
    refine Sky.land Zc.steady hfr hf sky' fun h3 fl3 up3 => ?_
    have J3 : Inv X pins σ' H' { s' with heap := h3 } := J.landed nb fl3.1 (up.trans up3) os ag
    obtain ⟨oe3, vs3, he3, hz3, hd3⟩ := fl3.there
    have notFr : ∀ {h : Heap} {o : Obj} {vs : Array Value}, h.FunFrames B (X.env :: X.outer) → h.get? a = some o → o.data = .fields vs → a ∉ frs (X.env :: X.outer) := fun {h o vs} ff e dd hm => by
      obtain ⟨_, o', e', hnf⟩ := ff.mem hm
      rw [e] at e'; cases e'
      exact hnf _ dd
    have nfr := notFr fl3.2.2.1 he3 hd3
    have nL : a ≠ X.env.locals := fun z => nfr (List.mem_filterMap.mpr ⟨X.env, List.mem_cons_self, by rw [hf, z]⟩)
    have nF : a ∉ X.fs := fun hm => by
      obtain ⟨e, he, q⟩ := List.mem_filterMap.mp hm
      exact nfr (List.mem_filterMap.mpr ⟨e, List.mem_cons_of_mem _ he, q⟩)
    have hnI : sI.heap.get? a = none := by
      cases e : sI.heap.get? a with
      | none => rfl
      | some o =>
        have q := nb a o e (by rw [hs]; exact nfr)
        rw [fl3.2.1] at q; cases q
    have S3 := J3.suite he3 hd3 na nL nF
    refine wpAny_handleBy_cons (codeAny_handlers_test ?_) (by intro q; cases q)
    have LT : PySem.W.Looks (model X.prog X.w) h3 (typeOf (.ref a)) cls := fun A Q E s k q => wpAny_typeOf_ref (k _ _ he3) (by rw [hz3.1]; exact q)
    have LM := PySem.W.exm_one (M := model X.prog X.w) (J3.kIn) LT hb1
    have test : ∀ {Q : Value → Shared → Prop} {E : Value → Shared → Prop}, Q c { s' with heap := h3 } → wpAny (model X.prog X.w) (X.A.mark (some (.ref a))) (eval (.Name x np) X.env) Q E { s' with heap := h3 } := fun {Q E} q => by
      obtain ⟨hg, hdbg, hm | ⟨hm, hv, hnn⟩⟩ := hc
      · exact ld_glob (X := X.suite a ((a, oe3) :: (X.pn ++ pins))) S3 hg hm q hdbg
      · exact ld_blt (X := X.suite a ((a, oe3) :: (X.pn ++ pins))) S3 hg hm hv q hnn hdbg
    refine test (LM.here ?_)
    cases b with
    | true =>
      refine codeAny_handlers_suite_as ?_
      refine HandSPX.lands_againZ fl3 fun h4 fl4 up4 => ?_
      have J4 : Inv X pins σ' H' { s' with heap := h4 } := J.landed nb fl4.1 ((up.trans up3).trans up4) os ag
      obtain ⟨oe4, vs4, he4, hz4, hd4⟩ := fl4.there
      have JK : Inv X pins σ' (upd H' a (EX oe4 a)) { s' with heap := h4 } := Sh.Inv.keepE J J4 hnI na hx0 he4
      have S4 : Inv (X.suite a (X.pn ++ pins)) [] σ' (upd H' a (EX oe4 a)) { s' with heap := h4 } := Sh.Inv.suiteE JK
      refine store_ok (X := X.suite a (X.pn ++ pins)) (v := .ref a) S4 hN hi hloc rfl (fun s5 S5 => ?_) (.inr hln)
      refine wpAny_mono ((hsu a (X.pn ++ pins)).run [] s5 _ _ _ S5 (hyes rfl a oe4 na hz4 ⟨_, hd4⟩)) (fun f s6 hsp => ?_) (fun _ _ z => False.elim z)
      have end_ : ∀ {σ6 : L2.St} {H6 : Hp} {Q : Shared → Prop}, Inv (X.suite a (X.pn ++ pins)) [] σ6 H6 s6 → (∀ s7, Inv X pins (σ6.set i none) H6 s7 → Q s7) →
          wpAny (model X.prog X.w) X.A (do bindName X.env n .none; unbindBehindTheSuite X.env n pos') (fun _ s7 => Q s7) X.xe s6 := fun {σ6 H6 Q} S6 hq => gone_ok (Sh.Inv.unsuiteE S6 ok) hN hi hln hq
      cases f with
      | next =>
        obtain ⟨σ6, H6, S6, q6⟩ := hsp
        exact end_ S6 fun s7 J7 => ⟨_, _, J7, q6⟩
      | brk =>
        obtain ⟨σ6, H6, S6, q6⟩ := hsp
        exact end_ S6 fun s7 J7 => ⟨_, _, J7, q6⟩
      | cont =>
        obtain ⟨σ6, H6, S6, q6⟩ := hsp
        exact end_ S6 fun s7 J7 => ⟨_, _, J7, q6⟩
      | ret u =>
        obtain ⟨v6, σ6, H6, S6, r6, q6⟩ := hsp
        exact end_ S6 fun s7 J7 => ⟨_, _, _, J7, r6, q6⟩
    | false =>
      obtain ⟨b2, hb2, hyes2, hno2⟩ := hno rfl
      show wpAny _ X.A (handleBy (.ref a) X.env [.ExceptHandler (some (.Name x2 np2)) (some n2) (b₁ :: suite2) pos2]) _ _ _
      refine wpAny_handleBy_cons (codeAny_handlers_test ?_) (by intro q; cases q)
      have LM2 := PySem.W.exm_one (M := model X.prog X.w) (J3.kIn) LT hb2
      have test2 : ∀ {Q : Value → Shared → Prop} {E : Value → Shared → Prop}, Q c2 { s' with heap := h3 } → wpAny (model X.prog X.w) (X.A.mark (some (.ref a))) (eval (.Name x2 np2) X.env) Q E { s' with heap := h3 } := fun {Q E} q => by
        obtain ⟨hg, hdbg, hm | ⟨hm, hv, hnn⟩⟩ := hc2
        · exact ld_glob (X := X.suite a ((a, oe3) :: (X.pn ++ pins))) S3 hg hm q hdbg
        · exact ld_blt (X := X.suite a ((a, oe3) :: (X.pn ++ pins))) S3 hg hm hv q hnn hdbg
      refine test2 (LM2.here ?_)
      cases b2 with
      | true =>
        refine codeAny_handlers_suite_as ?_
        refine HandSPX.lands_againZ fl3 fun h4 fl4 up4 => ?_
        have J4 : Inv X pins σ' H' { s' with heap := h4 } := J.landed nb fl4.1 ((up.trans up3).trans up4) os ag
        obtain ⟨oe4, vs4, he4, hz4, hd4⟩ := fl4.there
        have JK : Inv X pins σ' (upd H' a (EX oe4 a)) { s' with heap := h4 } := Sh.Inv.keepE J J4 hnI na hx0 he4
        have S4 : Inv (X.suite a (X.pn ++ pins)) [] σ' (upd H' a (EX oe4 a)) { s' with heap := h4 } := Sh.Inv.suiteE JK
        refine store_ok (X := X.suite a (X.pn ++ pins)) (v := .ref a) S4 hN hi2 hloc2 rfl (fun s5 S5 => ?_) (.inr hln2)
        refine wpAny_mono ((hsu2 a (X.pn ++ pins)).run [] s5 _ _ _ S5 (hyes2 rfl a oe4 na hz4 ⟨_, hd4⟩)) (fun f s6 hsp => ?_) (fun _ _ z => False.elim z)
        have end_ : ∀ {σ6 : L2.St} {H6 : Hp} {Q : Shared → Prop}, Inv (X.suite a (X.pn ++ pins)) [] σ6 H6 s6 → (∀ s7, Inv X pins (σ6.set i2 none) H6 s7 → Q s7) →
            wpAny (model X.prog X.w) X.A (do bindName X.env n2 .none; unbindBehindTheSuite X.env n2 pos2) (fun _ s7 => Q s7) X.xe s6 := fun {σ6 H6 Q} S6 hq => gone_ok (Sh.Inv.unsuiteE S6 ok) hN hi2 hln2 hq
        cases f with
        | next =>
          obtain ⟨σ6, H6, S6, q6⟩ := hsp
          exact end_ S6 fun s7 J7 => ⟨_, _, J7, q6⟩
        | brk =>
          obtain ⟨σ6, H6, S6, q6⟩ := hsp
          exact end_ S6 fun s7 J7 => ⟨_, _, J7, q6⟩
        | cont =>
          obtain ⟨σ6, H6, S6, q6⟩ := hsp
          exact end_ S6 fun s7 J7 => ⟨_, _, J7, q6⟩
        | ret u =>
          obtain ⟨v6, σ6, H6, S6, r6, q6⟩ := hsp
          exact end_ S6 fun s7 J7 => ⟨_, _, _, J7, r6, q6⟩
      | false =>
        show wpAny _ X.A (handleBy (.ref a) X.env []) _ _ _
        refine wpAny_handleBy_nil ?_
        obtain ⟨k1, k2, k3, oe, vs, T, oT, ts', he, hz, hd, h1, hr⟩ := id fl3
        unfold PySem.passOn
        refine wpAny_bind (wpAny_field he hd h1 ?_)
        rw [if_neg (show ¬ ((Value.ref T == Value.none) = true) from by simp)]
        have fin : wpAny (model X.prog X.w) X.A (setFlight (.ref a) X.env.frame) (fun _ s4 => wpAny (model X.prog X.w) X.A (throw (.ref a) : Sem Flow) (SP X pins D) X.xe s4) X.xe { s' with heap := h3 } := by
          rw [hf]
          refine HandSPX.setFlight_upZ fl3 fun h4 hh4 up4 => wpAny_throw (tk _ _ ?_)
          exact ⟨a, B, sI, pins, σ', H', cls, d, rfl, J, nb, (up.trans up3).trans up4, .inr (.inr (by rw [hs]; exact hh4)), na, os, ag, hno2 rfl⟩
        first
          | exact wpAny_bind (wpAny_pure (wpAny_bind fin))
          | exact wpAny_bind fin
  · cases f with
    | next =>
      obtain ⟨σ', H', J', q⟩ := hsp
      exact wpAny_execs_nil ⟨σ', H', J'.ofTry ok, q⟩
    | brk =>
      obtain ⟨σ', H', J', q⟩ := hsp
      exact ⟨σ', H', J'.ofTry ok, q⟩
    | cont =>
      obtain ⟨σ', H', J', q⟩ := hsp
      exact ⟨σ', H', J'.ofTry ok, q⟩
    | ret u =>
      obtain ⟨v, σ', H', J', r, q⟩ := hsp
      exact ⟨v, σ', H', J'.ofTry ok, r, q⟩
end
end Sh
namespace Sh
open PySem PySem.Spec PySem.Calls PyProof.Rows L2
def tTryK2 (K : PySem.W.Frag) (c c2 : Value) (i i2 : Nat) (tb : WX → TS) (ts ts2 : TS) (Wout : WX) : TS := fun D σ H => tb (wAsK K c i ts (wAsK K c2 i2 ts2 Wout D) D) D σ H
theorem g_tryK2 {X : Cx} {K : PySem.W.Frag} (hK : X.K = K) {x n x2 n2 : Str} {c c2 : Value} {i i2 : Nat} {body suite suite2 : List Stmt} {b₀ b₁ : Stmt} {np pos pos' np2 pos2 : Pos} {tb : WX → TS} {ts ts2 : TS} {Wout : WX} (hx0 : X.ex = []) (hs : X.stack = X.env :: X.outer) (hf : X.env.frame = some X.env.locals) (hN : X.N.Nodup) (hi : X.N[i]? = some n) (hln : X.env.kindOf n = some .local) (hc : Names X x c) (hi2 : X.N[i2]? = some n2) (hln2 : X.env.kindOf n2 = some .local) (hc2 : Names X x2 c2) (tk : Takes X Wout)
    (hb : ∀ (W : WX) (pn : List (Addr × Obj)) (xe : Value → Shared → Prop), Takes (X.tr pn xe) W → PassesOwn (model X.prog X.w) X.A X.env xe → PSs (X.tr pn xe) body (tb W))
    (hsu : ∀ (a : Addr) (pn : List (Addr × Obj)), PSs (X.suite a pn) (b₀ :: suite) ts) (hsu2 : ∀ (a : Addr) (pn : List (Addr × Obj)), PSs (X.suite a pn) (b₁ :: suite2) ts2) :
    PS X (.Try body [.ExceptHandler (some (.Name x np)) (some n) (b₀ :: suite) pos', .ExceptHandler (some (.Name x2 np2)) (some n2) (b₁ :: suite2) pos2] [] [] pos) (tTryK2 K c c2 i i2 tb ts ts2 Wout) := by
  subst hK
  exact ps_tryK2 hx0 hs hf hN hi hln hc hi2 hln2 hc2 tk hb hsu hsu2
/-- what a suite hands on -/
abbrev DE.sui (E : DE) (i : Nat) : DE := { nx := fun ds b => E.nx (ds.set i .un) b, rt := E.rt, bk := fun ds b => E.bk (ds.set i .un) b, ct := fun ds b => E.ct (ds.set i .un) b, ro := E.ro, ro2 := E.ro2 }
theorem w_tryK2 {G : Gx} {b : Nat} {ds : List Sd} {E : DE} {c c2 : Value} {i i2 : Nat} {tb : WX → TS} {ts ts2 : TS} {Wout : WX} (HX : Addr → List (Str × D) → List Sd → Nat → Prop) (no : ∀ s ∈ ds, isOwn s = false) (ho : E.ro = false)
    (h : ∀ (W : WX) (H : Hp) (M : Addr → Prop), (⟨G.K, H, M, W, HX, true⟩ : Gx).Acc → Wt ⟨G.K, H, M, W, HX, true⟩ b (tb W) ds E)
    (hH : ∀ C fs ds' b', HX C fs ds' b' → (PySem.W.exmOne G.K (.ref C) c = some true ∧ Wt G b' ts (ds'.set i (.dat (.exc C fs))) (E.sui i)) ∨ (PySem.W.exmOne G.K (.ref C) c = some false ∧ PySem.W.exmOne G.K (.ref C) c2 = some true ∧ Wt G b' ts2 (ds'.set i2 (.dat (.exc C fs))) (E.sui i2))) :
    Wt G b (tTryK2 G.K c c2 i i2 tb ts ts2 Wout) ds E := fun gs M H σ S Dn w => by
  have S0 := S.enter no
  refine h _ H M (fun gs1 M1 b1 H1 σ1 ds1 C dd fsV fs S1 h1 h2 h3 h4 h5 => ?_) [] M H σ S0 Dn ⟨fun M' b' H' σ' ds' S' e => w.nx M' b' H' σ' ds' (S.under S') e, fun M' b' H' σ' ds' v d S' e r o => w.rt M' b' H' σ' ds' v d (S.under S') e (r.mono (msk_sub S.m0)) (fun z => by rw [ho] at z; cases z), fun M' b' H' σ' ds' S' e => w.bk M' b' H' σ' ds' (S.under S') e, fun M' b' H' σ' ds' S' e => w.ct M' b' H' σ' ds' (S.under S') e⟩
  have S2 := S.under S1
  have go : ∀ (i : Nat) (ts : TS), Wt G b1 ts (ds1.set i (.dat (.exc C fs))) (E.sui i) → ∀ a oe, H1 a = none → Zc (.ref C) (some dd) oe → (∃ vs, oe.data = .fields vs) →
      ts { nx := fun σ' H' => Dn.nx (σ'.set i none) H', rt := Dn.rt, bk := fun σ' H' => Dn.bk (σ'.set i none) H', ct := fun σ' H' => Dn.ct (σ'.set i none) H' } (σ1.set i (some (.ref a))) (upd H1 a (EX oe a)) := fun i ts g2 a oe ha hz hf => by
    have e2 : Ext H1 (upd H1 a (EX oe a)) := Ext.new ha
    have S3 := S2.step e2 (S2.lim.upd fun _ z => nomatch z)
    have ndd : dd ≠ a := fun z => by rw [z, ha] at h1; cases h1
    have rp : Rp G.K (msk M1 (upd H1 a (EX oe a))) (.ref a) (.exc C fs) := .exc (msk_new S2.liv ha) hz hf (by rw [msk_no h3, upd_ne ndd]; exact h1) (RpF.mono (msk_mono e2.toKp) h4)
    exact g2 gs M1 _ _ (S3.set (i := i) rp) _ ⟨fun M b H σ ds S e => w.nx M b H _ _ (S.forget i none) e, w.rt, fun M b H σ ds S e => w.bk M b H _ _ (S.forget i none) e, fun M b H σ ds S e => w.ct M b H _ _ (S.forget i none) e⟩
  rcases hH C fs ds1 b1 h5 with ⟨g1, g2⟩ | ⟨g1, g3, g2⟩
  · exact ⟨true, g1, fun _ => go i ts g2, fun z => nomatch z⟩
  · exact ⟨false, g1, fun z => (nomatch z), fun _ => ⟨true, g3, fun _ => go i2 ts2 g2, fun z => nomatch z⟩⟩
end Sh
namespace Sh
open PySem PySem.Spec PySem.Calls PyProof.Rows L2
section
variable {G : Gx} {p : Bool} {b b' b1 b2 n m : Nat} {t tk : TA} {ds : List Sd} {F : Fd} {es fs : List D}
/-- calls that may raise -/
theorem evs_calX (ha : EaD G p b b1 t ds es) (hn : es.length = n) (hF : es.length = F.n) (hd : F.dom es) (hc : F.cost es + b' ≤ b1) (acc : G.Acc) (hp : G.pm = true → p = true) (hx : ∀ C x, F.exn es C x → G.X C x ds b') :
    EvS G p b b' (tCl n 0 (SpD G.K F) (fun vs _ => vs) (WE G.W) t tNil) ds (fun d => F.res es d) :=
  (evs_cl (F := F) (gD := fun es _ => es) (fs := []) ha ea_nil (fun _ _ _ _ _ r _ => r) rfl fun es' e => by
    subst e
    exact ⟨hn, hF, hd, hc, fun C x q => ⟨rfl, acc, hp, hx C x q⟩⟩).imp fun d ⟨es', e, q⟩ => by
    subst e
    exact q
theorem evs_calXK (ha : EaD G p b b1 t ds es) (hk : EaD G p b1 b2 tk ds fs) (hn : es.length = n) (hm : fs.length = m) (hF : (es ++ fs).length = F.n) (hd : F.dom (es ++ fs)) (hc : F.cost (es ++ fs) + b' ≤ b2) (acc : G.Acc) (hp : G.pm = true → p = true) (hx : ∀ C x, F.exn (es ++ fs) C x → G.X C x ds b') :
    EvS G p b b' (tCl n m (SpD G.K F) (fun vs zs => vs ++ zs) (WE G.W) t tk) ds (fun d => F.res (es ++ fs) d) :=
  (evs_cl (F := F) (gD := fun es fs => es ++ fs) ha hk (fun _ _ _ _ _ r q => r.append q) hm fun es' e => by
    subst e
    exact ⟨hn, hF, hd, hc, fun C x q => ⟨rfl, acc, hp, hx C x q⟩⟩).imp fun d ⟨es', e, q⟩ => by
    subst e
    exact q
theorem evs_calXD {vz : List V} {dz : List D} (hz : ∀ H : Hp, RpA G.K H vz dz) (ha : EaD G p b b1 t ds es) (hn : es.length = n) (hF : (es ++ dz).length = F.n) (hd : F.dom (es ++ dz)) (hc : F.cost (es ++ dz) + b' ≤ b1) (acc : G.Acc) (hp : G.pm = true → p = true) (hx : ∀ C x, F.exn (es ++ dz) C x → G.X C x ds b') :
    EvS G p b b' (tCl n 0 (SpD G.K F) (fun vs _ => vs ++ vz) (WE G.W) t tNil) ds (fun d => F.res (es ++ dz) d) :=
  (evs_cl (F := F) (gD := fun es _ => es ++ dz) (fs := []) ha ea_nil (fun H _ _ _ _ r _ => r.append (hz H)) rfl fun es' e => by
    subst e
    exact ⟨hn, hF, hd, hc, fun C x q => ⟨rfl, acc, hp, hx C x q⟩⟩).imp fun d ⟨es', e, q⟩ => by
    subst e
    exact q
end
end Sh

/-! Sh23: a, *b = .. of what may be raised. -/
namespace Sh
open PySem PySem.Spec PySem.Calls PyProof.Rows L2
theorem ws_star {G : Gx} {b b' : Nat} {te : TE} {ds : List Sd} {R : D → Prop} {E : DE} {is : List Nat} {n i : Nat} (h : EvS G true b b' te ds R) (hi : i < n) (hl : is.length = n)
    (k : ∀ d, R d → ∃ es, d.items = some es ∧ n ≤ es.length + 1 ∧ es.length ≤ 16384 ∧ E.nx (setAll ds is (es.take i ++ [.lst ((es.drop i).take (es.length + 1 - n))] ++ (es.drop i).drop (es.length + 1 - n))) b') : Wt G b (tAsg te (gStar G.K n i (gNames is))) ds E := fun gs M H σ S Dn w =>
  h gs M H σ S _ fun v d' H' r e l rp => by
    obtain ⟨es, hd, h2, h3, k⟩ := k d' r
    have S1 := S.step e l
    have main : ∀ a vs, v = .ref a → (SqT G.K H' a vs ∨ SqL G.K H' a vs) → RpA G.K (msk M H') vs es → gStar G.K n i (gNames is) v σ H' Dn.nx := fun a vs e1 hs ra => by
      refine ⟨a, vs, e1, hs, by rw [ra.length]; exact h2, by rw [ra.length]; exact h3, fun D hD => ?_⟩
      rw [ra.length]
      have rm : RpA G.K (msk M H') ((vs.drop i).take (es.length + 1 - n)) ((es.drop i).take (es.length + 1 - n)) := RpA.take _ (RpA.drop i ra)
      have e2 : Ext H' (upd H' D (.lst ((vs.drop i).take (es.length + 1 - n)))) := Ext.new hD
      have S2 := S1.step e2 (S1.lim.upd fun _ z => nomatch z)
      have kp := msk_mono (M := M) e2.toKp
      refine names_run is _ _ σ ds ?_ S2 (((RpA.take i ra).mono kp).append (.cons (new_lst S1.liv hD rm) .nil) |>.append ((RpA.drop _ (RpA.drop i ra)).mono kp)) fun σ' S' => w.nx M b' _ σ' _ S' k
      have := ra.length
      simp only [List.length_append, List.length_take, List.length_drop, List.length_cons, List.length_nil]
      omega
    cases rp with
    | tup hs ha => cases hd; exact main _ _ rfl (.inl (sqt_unm hs)) ha
    | lst hs ha => cases hd; exact main _ _ rfl (.inr (SqL.of (msk_of hs).2)) ha
    | _ => cases hd
end Sh
namespace Sh
open PySem PySem.Spec PySem.Calls PyProof.Rows L2
theorem ws_dropT {G : Gx} {b b' : Nat} {te : TE} {ds : List Sd} {R : D → Prop} {E : DE} (h : EvS G true b b' te ds R) (k : ∀ d, R d → E.nx ds b') : Wt G b (tDrop te) ds E := fun gs M H σ S Dn w => h gs M H σ S _ fun v d H' r e l rp => w.nx M b' H' σ ds (S.step e l) (k d r)
/-- an own list, asked for with keywords -/
theorem eo_calK {G : Gx} {b b1 b2 n m : Nat} {t tk : TA} {ds : List Sd} {F : Fd} {E : L2.St → XK} {es fs xs : List D} (ha : EaD G true b b1 t ds es) (hk : EaD G true b1 b2 tk ds fs) (h : Cal F (es ++ fs) (.lst xs)) (hn : es.length = n) (hm : fs.length = m) (ho : F.own = true := by rfl) (ho2 : F.own2 = 0 := by rfl) :
    EoD G b b2 (tCl n m (SpD G.K F) (fun vs zs => vs ++ zs) E t tk) ds xs := fun gs M H σ S Q k =>
  ha gs M H σ S _ fun vs es' H1 r1 e1 l1 rp1 => hk gs M H1 σ (S.step e1 l1) _ fun zs fs' H2 r2 e2 l2 rp2 => by
    subst r1 r2
    have S2 := (S.step e1 l1).step e2 l2
    refine ⟨by rw [rp1.length, hn], by rw [rp2.length, hm], es' ++ fs', M, b2, S2.liv, l2.mono (by rw [h.cost]; omega), (rp1.mono (msk_mono e2.toKp)).append rp2, h.n, h.dom, fun v d H3 rd e3 l3 rp3 o => ?_, fun C dd fsV x H3 rx => absurd rx (h.exn C x)⟩
    have o := o ho
    rw [ho2] at o
    obtain ⟨a, ws, ys, rfl, rfl, q1, q2, q3⟩ := o
    cases h.res _ rd
    exact k a ws _ H3 rfl ((e1.trans e2).trans e3) l3 ((e1.trans e2).free q1) q2 q3
/-! == of data and of empty dicts -/
def rEqX (K : PySem.W.Frag) : R2 := fun x y H Q => rEqD K x y H Q ∨ rEqDA x y H Q
theorem g_eqX {X : Cx} {K : PySem.W.Frag} (hK : X.K = K) {k : Nat} (hr : Room k X.A) : OpR X (compareOp .Eq) (rEqX K) := by
  subst hK
  exact (op_eqD hr.units).or (op_eq_dictA hr.units0)
theorem o_eqX {K : PySem.W.Frag} {x y : D} (hx : D.shp 64 x = true) (hy : D.shp 64 y = true) : Op2D K (rEqX K) x y (.bl (D.eq x y)) := Op2.inl (o_eq hx hy)
theorem o_eqXI {K : PySem.W.Frag} {i j : Int} : Op2D K (rEqX K) (.int i) (.int j) (.bl (decide (i = j))) := Op2.inl o_eqI
theorem o_eqX0 {K : PySem.W.Frag} : Op2D K (rEqX K) (.dct []) (.dct []) (.bl true) := fun N b H v u Q hN l r1 r2 k => by
  cases r1 with
  | dct ha ra =>
    cases r2 with
    | dct hb rb =>
      cases ra
      cases rb
      exact .inr ⟨_, _, [], [], rfl, rfl, (msk_of ha).2, (msk_of hb).2, rfl, (fun p hp => by cases hp), k _ _ H rfl (Ext.refl H) l (.bl _)⟩
end Sh

/-! Sh24: try without a name; dict comprehensions. -/
namespace Sh
open PySem PySem.Spec PySem.Calls PyProof.Rows L2
/-- try: .. except c: .. -/
def tTryN (K : PySem.W.Frag) (c : Value) (tb : WX → TS) (ts : TS) (Wout : WX) : TS := fun D σ H => tb (wOnly K c (fun _ _ _ => ts) Wout D) D σ H
theorem g_tryN {X : Cx} {K : PySem.W.Frag} (hK : X.K = K) {x : Str} {c : Value} {body suite : List Stmt} {b₀ : Stmt} {np pos pos' : Pos} {tb : WX → TS} {ts : TS} {Wout : WX} (hs : X.stack = X.env :: X.outer) (hf : X.env.frame = some X.env.locals) (hc : Names X x c) (tk : Takes X Wout)
    (hb : ∀ (W : WX) (pn : List (Addr × Obj)) (xe : Value → Shared → Prop), Takes (X.tr pn xe) W → PassesOwn (model X.prog X.w) X.A X.env xe → PSs (X.tr pn xe) body (tb W))
    (hsu : ∀ (a : Addr) (pn : List (Addr × Obj)), PSs (X.suite a pn) (b₀ :: suite) ts) :
    PS X (.Try body [.ExceptHandler (some (.Name x np)) none (b₀ :: suite) pos'] [] [] pos) (tTryN K c tb ts Wout) := by
  subst hK
  exact ps_try_only hs hf hc tk hb fun a oe cls d pn _ _ => hsu a _
theorem w_tryN {G : Gx} {b : Nat} {ds : List Sd} {E : DE} {c : Value} {tb : WX → TS} {ts : TS} {Wout : WX} (HX : Addr → List (Str × D) → List Sd → Nat → Prop) (no : ∀ s ∈ ds, isOwn s = false) (ho : E.ro = false)
    (h : ∀ (W : WX) (H : Hp) (M : Addr → Prop), (⟨G.K, H, M, W, HX, true⟩ : Gx).Acc → Wt ⟨G.K, H, M, W, HX, true⟩ b (tb W) ds E)
    (hH : ∀ C fs ds' b', HX C fs ds' b' → PySem.W.exmOne G.K (.ref C) c = some true ∧ Wt G b' ts ds' E) :
    Wt G b (tTryN G.K c tb ts Wout) ds E := fun gs M H σ S Dn w => by
  have S0 := S.enter no
  refine h (wOnly G.K c (fun _ _ _ => ts) Wout Dn) H M (fun gs1 M1 b1 H1 σ1 ds1 C dd fsV fs S1 h1 h2 h3 h4 h5 => ?_) [] M H σ S0 Dn ⟨fun M' b' H' σ' ds' S' e => w.nx M' b' H' σ' ds' (S.under S') e, fun M' b' H' σ' ds' v d S' e r o => w.rt M' b' H' σ' ds' v d (S.under S') e (r.mono (msk_sub S.m0)) (fun z => by rw [ho] at z; cases z), fun M' b' H' σ' ds' S' e => w.bk M' b' H' σ' ds' (S.under S') e, fun M' b' H' σ' ds' S' e => w.ct M' b' H' σ' ds' (S.under S') e⟩
  obtain ⟨g1, g2⟩ := hH C fs ds1 b1 h5
  exact ⟨true, g1, fun _ a ha => g2 gs M1 _ _ (S.under S1) _ w, fun z => nomatch z⟩
end Sh

/-! Sh25: sorted({.. for .. in range(..)}) of ints, sorted of a dict with int keys. -/
namespace Sh
open PySem PySem.Spec PyProof.Rows L2 PpSet
section
variable {X : Cx}
/-- set.add of an int -/
theorem addI_ok {pins : List (Addr × Obj)} {σ : L2.St} {H : Hp} {s : Shared} {E : Value → Shared → Prop} {D : Addr} {S : Int → Bool} {n : Nat} {y : Int} {tk : Tok} {Q : Value → Shared → Prop} (I : Inv X pins σ H s) (hD : H D = some (SetO X.w D S n)) (room : n + 1 < scanBound)
    (h : ∀ s', Inv X pins σ (upd H D (SetO X.w D (fun j => S j || decide (j = y)) (if S y = true then n else n + 1))) s' → Q .none s') : wpAny (model X.prog X.w) X.A (call (.builtin "set.add") [.ref D, .int y tk]) Q E s := by
  have R := setO_get I hD
  refine setR_add R room fun h' sb new => ?_
  have he : ∃ u, h'.get? D = some u := by
    have ⟨o, _, _, _, ho, _⟩ := new
    exact ⟨o, ho⟩
  exact h _ (I.write (e := D) (t' := s.toks + 1) (by rw [hD]; trivial) (.inl rfl) (fun b u hb hu => (sb.2 b hb).trans hu) he (setO_new new))
end
section
variable {X : Cx}
/-- {elt for target in iter if ..}, elt an int: D the new set -/
def tScI (w : World) (wi : TI) (g : TG) (tt : TT) (te : TE) (vs : List Nat) : TE := fun σ H Q => wi σ H fun J H1 => ∀ D, H1 D = none → ∃ W : Nat → Nat → Hp → Prop, (∃ m, W 0 m (upd H1 D (SetO w D (fun _ => false) 0))) ∧ ∀ i m H, W i m H →
  (J.stop i H ∧ Q (.ref D) H) ∨ (J.go i H ∧ ∃ Nx : Hp → Prop, (∀ H', Nx H' → ∃ m', m' < m ∧ W (i + 1) m' H') ∧ ∀ x H', J.yld i H x H' → g x (wipe σ vs) H' fun σ2 H2 => wipe σ2 vs = wipe σ vs ∧ tt σ2 H2 fun b H3 =>
    if b = true then te σ2 H3 fun y H4 => ∃ (c : Int) (S : Int → Bool) (n : Nat), y = .int c ∧ H4 D = some (SetO w D S n) ∧ n + 1 < scanBound ∧ Nx (upd H4 D (SetO w D (fun j => S j || decide (j = c)) (if S c = true then n else n + 1))) else Nx H3)
theorem scI_core {pins : List (Addr × Obj)} {s : Shared} {σ : L2.St} {H : Hp} {Q : VK} {elt tg iter : Expr} {ifs : List Expr} {scope : Scope} {own : List (PySem.Str × Nat)} {pos pos' : Pos} {wi : TI} {g : TG} {tt : TT} {te : TE} {use : Option (Value → Sem Unit)} {Qf : Value → Shared → Prop}
    (hc : X.calm = true) (hN : X.N.Nodup) (I : Inv X pins σ H s) (hi : PI X tg iter wi) (ok : BlkOk X.N X.env.scope scope own)
    (hg : ∀ (s : Shared) (H : Hp) (C : Addr) (cl : List (PySem.Str × Addr)) (fp : List Addr), PG (X.blk s H scope (compEnvC scope cl C X.env) fp) tg g) (ht : ∀ (s : Shared) (H : Hp) (C : Addr) (cl : List (PySem.Str × Addr)) (fp : List Addr), PTs (X.blk s H scope (compEnvC scope cl C X.env) fp) ifs tt)
    (he : ∀ (s : Shared) (H : Hp) (C : Addr) (cl : List (PySem.Str × Addr)) (fp : List Addr), PE (X.blk s H scope (compEnvC scope cl C X.env) fp) elt te) (hs : ∀ x, foldedSetIterable iter X.env x = pure x)
    (h : tScI X.w wi g tt te (own.map (·.2)) σ H Q)
    (hRR : ∀ D C s' m H', Inv X pins σ H' s' → Q (.ref D) H' → s'.heap.Ns C m → FpOk X pins H' C → compPost (model X.prog X.w) X.A X.xe use Qf (.ref D) C (.ok .next) s') :
    wpAny (model X.prog X.w) X.A (comprehension (.SetComp elt [⟨tg, iter, ifs, 0⟩] scope pos) scope X.env pos' (newSet (.type "set")) false (eval iter X.env) use) Qf X.xe s := by
  have hfree : ∀ y ∈ scope.names, y.2 = .free → ∃ c, X.env.cells.lookup y.1 = some c := fun y hy e => by
    rcases ok.free y hy e with k | k
    · exact I.ok.has _ (.inl k)
    · exact I.ok.has _ (.inr k)
  refine wpAny_comprehension_free (use := use) rfl hs (closure_ok hfree) ok.kind (fun y hy e => by rw [ok.uniq y hy, e])
    (thn (hi.run pins s σ H _ I h) fun xv s1 hx => thn hx fun itv s2 h2 => ?_)
  obtain ⟨it, fp, tn, J, H2, e, I2, T, st2, f2, q⟩ := h2
  subst e
  refine newSet_ok (newEnv_comp ?_)
  generalize hD : s2.heap.objs.size = D
  have hDn : H2 D = none := I2.hok.fresh (Nat.le_of_eq hD)
  obtain ⟨W, ⟨m0, w0⟩, turn⟩ := q D hDn
  -- the new list
  generalize hs3 : ({ s2 with heap := s2.heap.push { cls := .type "set", dict := none, data := .set #[] 0 (.fresh 0 0 (!X.w.params.followText "set-order")) } } : Shared) = s3
  have I3 : Inv X pins σ (upd H2 D (SetO X.w D (fun _ => false) 0)) s3 := by
    rw [← hs3]
    refine I2.laid (t' := s2.toks) (fun b o e => Heap.get?_push_of_some _ e) (Nat.le_of_eq hD) ?_
    rw [← hD]
    exact setO_new (setR_fresh X.w)
  have h3 : s3.heap = s2.heap.push { cls := .type "set", dict := none, data := .set #[] 0 (.fresh 0 0 (!X.w.params.followText "set-order")) } := by rw [← hs3]
  have sz : ∀ b ∈ fp, b < s2.heap.objs.size := fun b hb => by
    obtain ⟨o, e, _⟩ := T.obj _ _ st2 b hb
    exact Heap.lt_size e
  have f3 : ∀ b ∈ fp, FpOk X pins (upd H2 D (SetO X.w D (fun _ => false) 0)) b ∧ b < s3.heap.objs.size := fun b hb => by
    have hlt := sz b hb
    refine ⟨⟨?_, (f2 b hb).2⟩, by rw [h3, Heap.size_push]; exact Nat.lt_succ_of_lt hlt⟩
    rw [upd_ne (by rw [← hD]; exact Nat.ne_of_lt hlt)]
    exact (f2 b hb).1
  have st3 : tn 0 s3.heap := T.keep _ _ _ st2 fun b _ o e => by rw [h3]; exact Heap.get?_push_of_some _ e
  have I4 := block_start I3 ok hN f3
  have pg := hg s3 (upd H2 D (SetO X.w D (fun _ => false) 0)) s3.heap.objs.size (cellsFrom (s3.heap.objs.size + 1) scope.names (cloFrom X.env.cells scope.names [])) fp
  have pt := ht s3 (upd H2 D (SetO X.w D (fun _ => false) 0)) s3.heap.objs.size (cellsFrom (s3.heap.objs.size + 1) scope.names (cloFrom X.env.cells scope.names [])) fp
  have pe := he s3 (upd H2 D (SetO X.w D (fun _ => false) 0)) s3.heap.objs.size (cellsFrom (s3.heap.objs.size + 1) scope.names (cloFrom X.env.cells scope.names [])) fp
  show codeAny _ _ (.compStart (.SetComp elt [⟨tg, iter, ifs, 0⟩] scope pos) 0 (.ref it) (.ref D) (compEnvC scope (cellsFrom (s3.heap.objs.size + 1) scope.names (cloFrom X.env.cells scope.names [])) s3.heap.objs.size X.env)) (compPost (model X.prog X.w) X.A X.xe use Qf (.ref D) s3.heap.objs.size) { s3 with heap := pushCells (s3.heap.push { cls := .type "dict", data := .dict #[] }) scope.names }
  have nfp : ∀ b ∈ fp, (upd H2 D (SetO X.w D (fun _ => false) 0)) b = none := fun b hb => (f3 b hb).1.1
  generalize hce : compEnvC scope (cellsFrom (s3.heap.objs.size + 1) scope.names (cloFrom X.env.cells scope.names [])) s3.heap.objs.size X.env = ce at I4 pg pt pe ⊢
  have cL : ce.locals = s3.heap.objs.size := by subst hce; rfl
  generalize hH3 : upd H2 D (SetO X.w D (fun _ => false) 0) = H3 at I3 I4 pg pt pe w0 nfp f3
  generalize hs4 : ({ s3 with heap := pushCells (s3.heap.push { cls := .type "dict", data := .dict #[] }) scope.names } : Shared) = s4 at I4 ⊢
  have st4 : tn 0 s4.heap := T.keep _ _ _ st3 fun b _ o e => by rw [← hs4]; exact pushCells_keeps _ _ _ _ (Heap.get?_push_of_some _ e)
  have stat : ∀ {σ' : L2.St} {H' : Hp} {s' : Shared}, Inv (X.blk s3 H3 scope ce fp) [] σ' H' s' → (∀ b ∈ fp, H' b = none) → ∀ b ∈ fp, FpOk (X.blk s3 H3 scope ce fp) [] H' b := fun {σ' H' s'} I' hn b hb =>
    ⟨hn b hb, (I'.ok.exf b hb).1, I'.ok.exfs b hb, .inl hb, fun x c e => (I'.ok.exf b hb).2 x c e, fun p hp => absurd (show p ∈ ([] : List (Addr × Obj)) ++ [] from hp) (by simp)⟩
  have loop : codeAny (model X.prog X.w) X.A (.compLoop (.SetComp elt [⟨tg, iter, ifs, 0⟩] scope pos) 0 (.ref it) (.ref D) ce) (compPost (model X.prog X.w) X.A X.xe use Qf (.ref D) s3.heap.objs.size) s4 := by
    refine compLoopS_any (fun n s' => ∃ i H', Inv (X.blk s3 H3 scope ce fp) [] (wipe σ (own.map (·.2))) H' s' ∧ tn i s'.heap ∧ (∀ b ∈ fp, H' b = none) ∧ W i n H') ?_ m0 ⟨0, H3, I4, st4, nfp, w0⟩
    rintro n s5 ⟨i, H5, I5, st5, n5, w5⟩
    rcases turn i n H5 w5 with ⟨stop, qq⟩ | ⟨go, Nx, hNx, step⟩
    · have td := T.done (X.blk s3 H3 scope ce fp) rfl rfl rfl hc i [] s5 _ H5 (fun _ _ => False) I5 (stat I5 n5) st5 stop
      refine thnF td fun r s6 ⟨hr, I6⟩ => ?_
      subst hr
      -- back in the def's context
      have I7 : Inv X pins σ H5 s6 := I3.call' (ch := fp) I6.os I6.base I6.hok I6.bare fun b hb => ⟨(f3 b hb).1.2.2.2.1, (f3 b hb).1.2.1, (f3 b hb).1.2.2.2.2.1, (f3 b hb).1.2.2.2.2.2⟩
      have nC : H5 s3.heap.objs.size = none := by
        have z : H5 ce.locals = none := I6.free
        rw [cL] at z
        exact z
      obtain ⟨m, hn, _⟩ := I6.loc
      have hn : s6.heap.Ns ce.locals m := hn
      rw [cL] at hn
      exact hRR D s3.heap.objs.size s6 m H5 I7 qq hn (I3.fpOk (Nat.le_refl _) nC)
    · have ti := T.item (X.blk s3 H3 scope ce fp) rfl rfl rfl hc i [] s5 _ H5 (fun _ _ => False) I5 (stat I5 n5) st5 go
      refine thnF ti fun r s6 ⟨u, hr, h6⟩ => ?_
      subst hr
      refine thnF h6 fun _ s7 ⟨x, H7, I7, r7, y7, st7, n7⟩ => ?_
      have I7' := I7.pinned (stat I7 n7) (T.obj _ _ st7)
      refine thnF (pg.run _ s7 _ H7 x u _ I7' r7 (step x H7 y7)) fun _ s8 ⟨σ8, H8, I8, hw8, q8⟩ => ?_
      refine thnF (pt.run _ s8 σ8 H8 _ I8 q8) fun b s9 ⟨H9, I9, q9⟩ => ?_
      -- the turn's end
      have fin : ∀ {s' : Shared} {H' : Hp}, Inv (X.blk s3 H3 scope ce fp) ([] ++ pinsAt fp s7.heap) σ8 H' s' → Nx H' → ∃ m, m < n ∧ ∃ i H', Inv (X.blk s3 H3 scope ce fp) [] (wipe σ (own.map (·.2))) H' s' ∧ tn i s'.heap ∧ (∀ b ∈ fp, H' b = none) ∧ W i m H' := fun {s' H'} I' nx => by
        obtain ⟨m', hm, w'⟩ := hNx H' nx
        have pin' : ∀ b ∈ fp, ∀ o, s7.heap.get? b = some o → s'.heap.get? b = some o ∧ H' b = none := fun b hb o e =>
          let z := I'.pin (b, o) (List.mem_append_right _ (List.mem_append_right _ (mem_pinsAt hb e)))
          ⟨z.1, z.2.1⟩
        have hl : (wipe σ (own.map (·.2))).length = σ8.length := by rw [← hw8, wipe_length]
        refine ⟨m', hm, i + 1, H', (I'.unpinned (pins := [])).weak hl (fun j v e => ?_), T.keep _ _ _ st7 fun b hb o e => (pin' b hb o e).1, fun b hb => ?_, w'⟩
        · rw [← hw8] at e
          exact (wipe_some e).1
        · obtain ⟨o, e, _⟩ := T.obj _ _ st7 b hb
          exact (pin' b hb o e).2
      cases b with
      | false =>
        simp only [Bool.false_eq_true, if_false] at q9 ⊢
        exact fin I9 q9
      | true =>
        simp only [if_true] at q9 ⊢
        refine thnF (pe.run _ s9 σ8 H9 _ I9 q9) fun z s10 ⟨yv, H10, I10, r10, cb, S0, n0, ey, hD10, hz10, nx⟩ => ?_
        subst ey
        obtain ⟨tk, rfl⟩ := r10
        exact addI_ok (X := X.blk s3 H3 scope ce fp) I10 hD10 hz10 fun s11 I11 => fin I11 nx
  exact codeAny_compStart_set loop (T.self X.A 0 _ _ _ st4 loop)
/-- as a value -/
theorem pe_scI {elt tg iter : Expr} {ifs : List Expr} {scope : Scope} {own : List (PySem.Str × Nat)} {pos : Pos} {wi : TI} {g : TG} {tt : TT} {te : TE} (hc : X.calm = true) (hN : X.N.Nodup) (hi : PI X tg iter wi) (ok : BlkOk X.N X.env.scope scope own)
    (hg : ∀ (s : Shared) (H : Hp) (C : Addr) (cl : List (PySem.Str × Addr)) (fp : List Addr), PG (X.blk s H scope (compEnvC scope cl C X.env) fp) tg g) (ht : ∀ (s : Shared) (H : Hp) (C : Addr) (cl : List (PySem.Str × Addr)) (fp : List Addr), PTs (X.blk s H scope (compEnvC scope cl C X.env) fp) ifs tt)
    (he : ∀ (s : Shared) (H : Hp) (C : Addr) (cl : List (PySem.Str × Addr)) (fp : List Addr), PE (X.blk s H scope (compEnvC scope cl C X.env) fp) elt te) (hs : ∀ x, foldedSetIterable iter X.env x = pure x := by intro _; rfl) :
    PE X (.SetComp elt [⟨tg, iter, ifs, 0⟩] scope pos) (tScI X.w wi g tt te (own.map (·.2))) := by
  refine ⟨fun pins s σ H Q I h => ?_⟩
  rw [eval_SetComp]
  refine scI_core hc hN I hi ok hg ht he hs h fun D C s' m H' I' q hn f => ⟨m, hn, fun h'' sb => ?_⟩
  obtain ⟨f0, f1, f2, f3, f4, f5⟩ := f
  exact ⟨.ref D, H', I'.turned (t' := s'.toks) (fun b o hb e => (sb.2 b hb).trans e) f0 f1 f3 f4 f5, rfl, q⟩
end
/-- sorted(s) of a set of ints that nothing knows behind it -/
def rSortedSetF (w : World) : List V → Hp → VK → Prop := fun vs H Q => ∃ (a : Addr) (S : Int → Bool) (n : Nat), vs = [V.ref a] ∧ H a = some (SetO w a S n) ∧ n < 64 ∧
  ∀ (ns : List Int) (p : Addr) (o : Obj), ns.Pairwise (· < ·) → (∀ k : Int, k ∈ ns ↔ S k = true) → H p = none → Q (.ref p) (upd (upd H a (EX o a)) p (.lst (ns.map V.int)))
theorem cr_sortedSetF {X : Cx} (hc : X.calm = true) : CallR X (.builtin "sorted") (rSortedSetF X.w) := by
  intro pins s σ H vs us Q I r h
  obtain ⟨a, S, n, rfl, ha, h64, q⟩ := h
  have R := setO_get I ha
  rw [Vals.ref1 r]
  refine sorted_set R (I.ok.hd hc) h64 fun s' p out c ns k g o hp hg hi hs hm hl => ?_
  have hlen : (ns.map V.int).length ≤ sizeLine := by rw [List.length_map, hl, sizeLine_eq]; omega
  have hn : H p = none := I.hok.fresh hp
  have J : Inv X pins σ (upd H p (.lst (ns.map V.int))) { s with heap := s'.heap, gens := s'.gens, drawn := s'.drawn, toks := s'.toks } :=
    I.call (ch := []) (Un.laid k hp hn) (I.hok.laid k hp ⟨hlen, out.toList, c, vals_of_ints hi, hg⟩) (by rw [g]; exact I.bare) (fun _ z => nomatch z)
  have e : s' = { s with heap := s'.heap, gens := s'.gens, drawn := s'.drawn, toks := s'.toks } := by
    cases s'
    cases s
    cases o
    rfl
  rw [e]
  obtain ⟨oa, _, _, _, hoa, _⟩ := id R
  have hoa' := k a oa hoa
  have npa : a ≠ p := fun z => by rw [z, hn] at ha; cases ha
  have ha2 : (upd H p (.lst (ns.map V.int))) a = some (SetO X.w a S n) := by rw [upd_ne npa]; exact ha
  have J2 := J.write (x := a) (e := a) (o := EX oa a) (h' := s'.heap) (t' := s'.toks) (by rw [ha2]; trivial) (.inl rfl) (fun b u hb hu => hu) ⟨oa, hoa'⟩ (ex_ok hoa')
  have e2 : upd (upd H p (.lst (ns.map V.int))) a (EX oa a) = upd (upd H a (EX oa a)) p (.lst (ns.map V.int)) := by
    funext b
    by_cases h1 : b = a
    · subst h1
      rw [upd_same, upd_ne npa, upd_same]
    · rw [upd_ne h1]
      by_cases h2 : b = p
      · subst h2
        rw [upd_same, upd_same]
      · rw [upd_ne h2, upd_ne h2, upd_ne h1]
  rw [e2] at J2
  exact ⟨.ref p, _, J2, rfl, q ns p oa hs hm hn⟩
theorem g_sortSc {X : Cx} {w : World} {K : PySem.W.Frag} (hw : X.w = w) {elt tg iter : Expr} {ifs : List Expr} {scope : Scope} {own : List (PySem.Str × Nat)} {p pos pos2 : Pos} {wi : TI} {g : TG} {tt : TT} {te : TE} (hgl : Gl X "sorted") (hm : X.mg "sorted" = none) (hc : X.calm = true) (hN : X.N.Nodup) (hi : PI X tg iter wi) (ok : BlkOk X.N X.env.scope scope own)
    (hg : ∀ (s : Shared) (H : Hp) (C : Addr) (cl : List (PySem.Str × Addr)) (fp : List Addr), PG (X.blk s H scope (compEnvC scope cl C X.env) fp) tg g) (ht : ∀ (s : Shared) (H : Hp) (C : Addr) (cl : List (PySem.Str × Addr)) (fp : List Addr), PTs (X.blk s H scope (compEnvC scope cl C X.env) fp) ifs tt)
    (he : ∀ (s : Shared) (H : Hp) (C : Addr) (cl : List (PySem.Str × Addr)) (fp : List Addr), PE (X.blk s H scope (compEnvC scope cl C X.env) fp) elt te) (hs : ∀ x, foldedSetIterable iter X.env x = pure x := by intro _; rfl) :
    PE X (.Call (.Name "sorted" p) [.SetComp elt [⟨tg, iter, ifs, 0⟩] scope pos] [] pos2) (tCB (rSortedSetF w) (tCons (tScI w wi g tt te (own.map (·.2))) tNil)) := by
  subst hw
  exact pe_callB (cr_sortedSetF hc) hgl hm boot_sorted (pa_cons (pe_scI hc hN hi ok hg ht he hs) pa_nil)
/-! ### by data: the items of the block leave the heap as it is -/
def EvP (G : Gx) (te : TE) (ds : List Sd) (d : D) : Prop := ∀ (M : Addr → Prop) (H : Hp) (σ : List (Option V)), σ.length = ds.length → (∀ (i : Nat) (s : Option V) (e : Sd), σ[i]? = some s → ds[i]? = some e → SlOk G.K M H s e) → ∀ Q : VK, (∀ v, Rp G.K (msk M H) v d → Q v H) → te σ H Q
section
variable {G : Gx} {ds : List Sd} {i : Nat} {d : D} {te ta tb : TE} {xs : List D} {m n : Int}
theorem evp_var (h : ds[i]? = some (.dat d)) : EvP G (tVar i) ds d := fun M H σ hl S Q k => by
  have hi : i < σ.length := by
    rw [hl]
    exact (List.getElem?_eq_some_iff.mp h).1
  obtain ⟨v, e, r⟩ := S i _ _ (List.getElem?_eq_getElem hi) h
  exact ⟨v, by rw [List.getElem?_eq_getElem hi, e], k v r⟩
theorem evp_ixL (h1 : EvP G ta ds (.lst xs)) (h2 : EvP G tb ds (.int m)) (h : L2.atI xs m = some d) : EvP G (tOp (rIxA G.K) ta tb) ds d := fun M H σ hl S Q k =>
  h1 M H σ hl S _ fun v r1 => h2 M H σ hl S _ fun u r2 => by
    cases r2
    cases r1 with
    | lst ha r =>
      obtain ⟨w, g1, g2⟩ := r.atI h
      exact .inl ⟨_, _, m, w, rfl, rfl, SqL.of (msk_of ha).2, g1, k _ g2⟩
theorem evp_mod (h1 : EvP G ta ds (.int m)) (h2 : EvP G tb ds (.int n)) (h : 0 < n) : EvP G (tOp rModA ta tb) ds (.int (m % n)) := fun M H σ hl S Q k =>
  h1 M H σ hl S _ fun v r1 => h2 M H σ hl S _ fun u r2 => by
    cases r1
    cases r2
    exact ⟨m, n, rfl, rfl, h, k _ (.int _)⟩
theorem evp_len (h1 : EvP G ta ds (.lst xs)) : EvP G (tCB (rLen G.K) (tCons ta tNil)) ds (.int (xs.length : Int)) := fun M H σ hl S Q k =>
  h1 M H σ hl S _ fun v r1 => by
    cases r1 with
    | @lst a vs _ ha r =>
      refine ⟨_, _, rfl, ?_, k _ (.int _)⟩
      have e := r.length
      rw [← e]
      exact .inl ⟨vs, SqL.of (msk_of ha).2, rfl⟩
end
section
theorem len_sub : ∀ {l L : List Int}, l.Nodup → (∀ k ∈ l, k ∈ L) → l.length ≤ L.length
  | [], _, _, _ => Nat.zero_le _
  | x :: l, L, hn, h => by
    obtain ⟨h1, h2⟩ := List.nodup_cons.mp hn
    have hx := h x List.mem_cons_self
    have q := len_sub (l := l) (L := L.erase x) h2 fun k hk => (List.mem_erase_of_ne fun z => h1 (by rw [← z]; exact hk)).mpr (h k (List.mem_cons_of_mem _ hk))
    rw [List.length_erase_of_mem hx] at q
    have := List.length_pos_of_mem hx
    show l.length + 1 ≤ L.length
    omega
theorem wipe_sub {σ : L2.St} (vs : List Nat) : ∀ ws : List Nat, (∀ v ∈ ws, v ∈ vs) → L2.wipe (L2.wipe σ ws) vs = L2.wipe σ vs
  | [], _ => rfl
  | v :: ws, h => by
    show L2.wipe ((L2.wipe σ ws).set v none) vs = L2.wipe σ vs
    rw [wipe_in _ _ _ _ (h v List.mem_cons_self), wipe_sub vs ws fun u hu => h u (List.mem_cons_of_mem _ hu)]
/-- sorted({e for name in range(m, n)}) -/
theorem evs_sortScR {G : Gx} {p q : Bool} {b b1 : Nat} {w : World} {ta : TA} {te : TE} {j : Nat} {vs : List Nat} {ds : List Sd} {m n : Int} (f : Nat → Int) (L : List Int) (ha : EaD G q b b1 ta ds [.int m, .int n])
    (hm : -(2 ^ 62) ≤ m ∧ m < 2 ^ 62 ∧ -(2 ^ 62) ≤ n ∧ n < 2 ^ 62) (hj : j ∈ vs) (hL : L.length < 64) (hf : ∀ i, i < (n - m).toNat → f i ∈ L)
    (he : ∀ i : Nat, i < (n - m).toNat → EvP G te ((wipeD ds vs).set j (.dat (.int (m + i)))) (.int (f i))) :
    EvS G p b b1 (tCB (rSortedSetF w) (tCons (tScI w (iRng2 ta) (gName j) tYes te vs) tNil)) ds (fun d => ∃ ns : List Int, d = .lst (ns.map .int) ∧ ns.Pairwise (· < ·) ∧ ∀ k, k ∈ ns ↔ ∃ i : Nat, i < (n - m).toNat ∧ f i = k) := fun gs M H σ S Q k => by
  refine ha gs M H σ S _ fun us es H1 r e l rp => ?_
  subst r
  cases rp with
  | cons r1 r2 =>
    cases r2 with
    | cons r2 r3 =>
      cases r3; cases r2; cases r1
      have S1 := S.step e l
      refine ⟨m, n, rfl, hm, fun D hD => ?_⟩
      generalize hN : (n - m).toNat = N at *
      refine ⟨fun i t H => t = N - i ∧ i ≤ N ∧ ∃ (F : Int → Bool) (c : List Int), H = upd H1 D (SetO w D F c.length) ∧ c.Nodup ∧ (∀ k, F k = true ↔ k ∈ c) ∧ (∀ k, k ∈ c ↔ ∃ i', i' < i ∧ f i' = k), ⟨N, by omega, Nat.zero_le _, fun _ => false, [], rfl, List.nodup_nil, (fun k => by simp), fun k => by simp⟩, ?_⟩
      rintro i t H2 ⟨rfl, hi, F, c, rfl, c1, c2, c3⟩
      have cl : c.length ≤ L.length := len_sub c1 fun k hk => by
        obtain ⟨i', h1, h2⟩ := (c3 k).mp hk
        rw [← h2]
        exact hf i' (by omega)
      by_cases hlt : i < N
      · refine .inr ⟨hlt, fun H => ∃ (F : Int → Bool) (c : List Int), H = upd H1 D (SetO w D F c.length) ∧ c.Nodup ∧ (∀ k, F k = true ↔ k ∈ c) ∧ (∀ k, k ∈ c ↔ ∃ i', i' < i + 1 ∧ f i' = k), fun H' z => ⟨N - (i + 1), by omega, rfl, hlt, z⟩, ?_⟩
        rintro x H3 ⟨rfl, rfl⟩
        refine ⟨(wipe_in _ _ _ _ hj).trans (wipe_sub vs vs fun _ h => h), ?_⟩
        show te _ _ _
        have kp : Kp H1 (upd H1 D (SetO w D F c.length)) := (Ext.new hD).toKp
        refine he i hlt M _ _ ?_ (fun a s e h1 h2 => ?_) _ fun v r => ?_
        · rw [List.length_set, List.length_set, (S1.wipe vs).len]
        · have S3 := (S1.wipe vs).set (i := j) (v := .int (m + i)) (d := .int (m + i)) (.int _)
          exact (S3.sl a s e h1 h2).mono kp
        · cases r
          refine ⟨f i, F, c.length, rfl, upd_same, Nat.lt_of_le_of_lt (Nat.succ_le_succ cl) (Nat.lt_of_lt_of_le (Nat.succ_lt_succ hL) (by decide)), ?_⟩
          have eu : ∀ o, upd (upd H1 D (SetO w D F c.length)) D o = upd H1 D o := fun o => by
            funext a
            by_cases h : a = D
            · rw [h, upd_same, upd_same]
            · rw [upd_ne h, upd_ne h, upd_ne h]
          by_cases hin : F (f i) = true
          · refine ⟨fun j => F j || decide (j = f i), c, ?_, c1, fun k => ?_, fun k => ?_⟩
            · rw [eu, if_pos hin]
            · show (F k || decide (k = f i)) = true ↔ _
              rw [Bool.or_eq_true, decide_eq_true_eq, c2 k]
              exact ⟨fun z => z.elim id fun z => by rw [z]; exact (c2 _).mp hin, .inl⟩
            · rw [c3 k]
              refine ⟨fun ⟨i', h1, h2⟩ => ⟨i', by omega, h2⟩, fun ⟨i', h1, h2⟩ => ?_⟩
              by_cases hii : i' = i
              · subst hii
                rw [← h2]
                exact (c3 _).mp ((c2 _).mp hin)
              · exact ⟨i', by omega, h2⟩
          · refine ⟨fun j => F j || decide (j = f i), f i :: c, ?_, List.nodup_cons.mpr ⟨fun z => hin ((c2 _).mpr z), c1⟩, fun k => ?_, fun k => ?_⟩
            · rw [eu, if_neg hin]; rfl
            · show (F k || decide (k = f i)) = true ↔ _
              rw [Bool.or_eq_true, decide_eq_true_eq, c2 k, List.mem_cons]
              exact ⟨fun z => z.elim .inr .inl, fun z => z.elim .inr .inl⟩
            · rw [List.mem_cons, c3 k]
              refine ⟨fun z => ?_, fun ⟨i', h1, h2⟩ => ?_⟩
              · rcases z with rfl | ⟨i', h1, h2⟩
                · exact ⟨i, by omega, rfl⟩
                · exact ⟨i', by omega, h2⟩
              · by_cases hii : i' = i
                · subst hii
                  exact .inl h2.symm
                · exact .inr ⟨i', by omega, h2⟩
      · have en : i = N := by omega
        subst en
        refine .inl ⟨Nat.le_refl _, ?_⟩
        refine ⟨D, F, c.length, rfl, upd_same, Nat.lt_of_le_of_lt cl hL, fun ns a o hs hk hn => ?_⟩
        have nD : a ≠ D := fun z => by rw [z, upd_same] at hn; cases hn
        have hn1 : H1 a = none := by rw [upd_ne nD] at hn; exact hn
        have eu : upd (upd H1 D (SetO w D F c.length)) D (EX o D) = upd H1 D (EX o D) := by
          funext a
          by_cases h : a = D
          · rw [h, upd_same, upd_same]
          · rw [upd_ne h, upd_ne h, upd_ne h]
        rw [eu]
        have e1 : Ext H1 (upd H1 D (EX o D)) := Ext.new hD
        have hn2 : (upd H1 D (EX o D)) a = none := by rw [upd_ne nD]; exact hn1
        have e2 : Ext (upd H1 D (EX o D)) (upd (upd H1 D (EX o D)) a (.lst (ns.map V.int))) := Ext.new hn2
        have l1 : Lim b1 (upd H1 D (EX o D)) := l.upd fun _ z => nomatch z
        refine k _ _ _ ⟨ns, rfl, hs, fun k => ?_⟩ (e.trans (e1.trans e2)) (l1.upd fun _ z => nomatch z) (.lst (by
          rw [msk_no (fun z => S1.mm p a z hn1)]
          exact upd_same) RpA.of_ints)
        rw [hk, c2, c3]
end
end Sh

/-! Sh26: the head by one run in the kernel: defs and facts that a Hook tells. -/
namespace Sh
open PySem PySem.Spec PyProof.Rows L2
abbrev AlS : Type := Bool × List He.FnW
def obsS (fn : List He.DefD) (ex : PySem.W.Frag → List Bool) (K : PySem.W.Frag) : AlS := ((ex K).all id && fn.all fun d => d.ok K, fn.map fun d => He.fnW K d.at_)
def valS (fn : List He.DefD) : AlS := (true, fn.map He.DefD.val)
def obsSG (n : Nat) (fn : List He.DefD) (ex : PySem.W.Frag → List Bool) (g : Addr → Option Obj) : AlS := obsS fn ex (He.frG g (He.asD g n))
def SaysS (fn : List He.DefD) (ex : PySem.W.Frag → List Bool) (K : PySem.W.Frag) : Prop := obsS fn ex K = valS fn
def hookS (n : Nat) (fn : List He.DefD) (ex : PySem.W.Frag → List Bool) : PySem.W.Hook where
  α := AlS
  obs := fun s => obsSG n fn ex s.heap.get?
  val := fun _ => valS fn
  says := fun _ h => ∃ K : PySem.W.Frag, K.In h ∧ SaysS fn ex K
  of := fun _ _ e => ⟨_, He.frG_in, e⟩
  keeps := fun _ _ _ ⟨K, hK, c⟩ k => ⟨K, PySem.W.Frag.In.keeps hK k, c⟩
theorem obsSG_eq {n : Nat} {fn : List He.DefD} {ex : PySem.W.Frag → List Bool} {g : Addr → Option Obj} {s : Shared} (h : ∀ a, g a = s.heap.get? a) : obsSG n fn ex g = (hookS n fn ex).obs s := by
  have e : g = s.heap.get? := funext h
  rw [e] <;> rfl
section
variable {fn : List He.DefD} {ex : PySem.W.Frag → List Bool} {K : PySem.W.Frag}
theorem SaysS.fact (c : SaysS fn ex K) (i : Nat) {b : Bool} (h : (ex K)[i]? = some b) : b = true := by
  have c1 := (He.ba (show ((ex K).all id && fn.all fun d => d.ok K) = true from congrArg (fun z : AlS => z.1) c)).1
  exact List.all_eq_true.mp c1 b (List.mem_of_getElem? h)
theorem SaysS.eq (c : SaysS fn ex K) (i : Nat) {p : Prop} {d : Decidable p} (h : (ex K)[i]? = some (@decide p d)) : p := of_decide_eq_true (c.fact i h)
theorem SaysS.def_ (c : SaysS fn ex K) (i : Nat) {d : He.DefD} (h : fn[i]? = some d) : ∃ fd, FunD K d.name d.qual d.params d.body d.scope (d.dvs K) (d.kws K) (He.fAd K d.at_) fd := by
  have c2 := (He.ba (show ((ex K).all id && fn.all fun d => d.ok K) = true from congrArg (fun z : AlS => z.1) c)).2
  have e : fn.map (fun d => He.fnW K d.at_) = fn.map He.DefD.val := congrArg (fun z : AlS => z.2) c
  have e2 : (fn.map fun d => He.fnW K d.at_)[i]? = (fn.map He.DefD.val)[i]? := by rw [e]
  rw [List.getElem?_map, List.getElem?_map, h] at e2
  exact He.DefD.funD (Option.some.inj e2) (List.all_eq_true.mp c2 d (List.mem_of_getElem? h))
end
theorem fun_of {K : PySem.W.Frag} {x qual : Str} {st : Stmt} {f : Addr} {fd : FuncData} (F : FunD K x qual (defArgs st) (defBody st) (defScope st) [] [] f fd) : Fun K x qual st f fd := by
  obtain ⟨oc, od, dV, kV, doc, pm, an, cdv, ct, osl, e, lk, hcd, hD, hK⟩ := F.ex
  rcases hD with ⟨_, rfl⟩ | ⟨z, _⟩
  · exact ⟨⟨oc, od, kV, doc, pm, an, cdv, ct, osl, e, lk, hcd⟩, F.kp⟩
  · exact absurd rfl z
/-- an own class over ValueError -/
def excB (K : PySem.W.Frag) (C : Addr) : Bool := match K.lookup C with
  | some ⟨.type c, _, .cls cd, sl⟩ => decide (c = "type") && (match cd.mro, sl.toList with
    | .ref C' :: bm, [_, _, _, _, some (.builtin n), _] => decide (C' = C) && (decide (n = "ValueError.__new__") && (!cd.hasDel && (cd.hasDict && PySem.HandSPX.refsVE bm)))
    | _, _ => false)
  | _ => false
theorem excB_ok {K : PySem.W.Frag} {C : Addr} (q : excB K C = true) : ∃ nm qn N bs bm sn sub ab col dd k0 k1 k2 k3 k5, K.lookup C = some (excClassObj nm qn C N bs bm true sn sub ab col dd k0 k1 k2 k3 k5 "ValueError.__new__") ∧ PySem.HandSPX.refsVE bm = true := by
  unfold excB at q
  split at q
  · rename_i c dd cd sl ho
    have e0 := of_decide_eq_true (He.ba q).1
    replace q := (He.ba q).2
    subst e0
    split at q
    · rename_i C' bm k0 k1 k2 k3 n k5 hm hs
      obtain ⟨h1, q⟩ := He.ba q
      obtain ⟨h2, q⟩ := He.ba q
      obtain ⟨h3, q⟩ := He.ba q
      obtain ⟨h4, h5⟩ := He.ba q
      have e1 := of_decide_eq_true h1
      have e2 := of_decide_eq_true h2
      subst e1 e2
      obtain ⟨nm, bs, mro, ns, qn, hd, sn, sub, ab, col, del⟩ := cd
      dsimp only at hm h3 h4
      subst hm h4
      have h3' : del = false := by simpa using h3
      subst h3'
      have hsl : sl = #[k0, k1, k2, k3, some (.builtin "ValueError.__new__"), k5] := by
        obtain ⟨l⟩ := sl
        simp only at hs
        rw [hs]
      subst hsl
      exact ⟨nm, qn, ns, bs, bm, sn, sub, ab, col, dd, k0, k1, k2, k3, k5, ho, h5⟩
    · cases q
  · cases q
theorem ktup_dv {K : PySem.W.Frag} {x : Str} {ns : List Int} (h : He.tupB K x (ns.map He.Dv.int) = true) (H : Hp) : Rp K H (.ref (He.ga K x)) (.tup (ns.map D.int)) := by
  have q := He.tupB_ok h H
  have e : (ns.map He.Dv.int).map (He.Dv.v K) = ns.map V.int := by
    rw [List.map_map]
    rfl
  rw [e] at q
  exact .tup q RpA.of_ints
/-- a law: what the Hook tells gives the promise; the script's bits are told -/
theorem walk_ofY {l : PySem.W.OpenLaw} {n k : Nat} {q : Program} {loose : List Str} {XP : (Str → Option Value) → Heap → Prop} {YP : World → Heap → Prop} {d : DefRec} {CX : World → CXT} {x : Str}
    (hn : l.most = some n) (hn2 : n ≤ sizeLine) (hdf : d.params.defaults = []) (hr : Room k callerA)
    (F : ∀ (w : World) (mg : Str → Option Value) (fa : Addr) (h : Heap), YP w h → h.Ns mainGlobals mg → mg d.name = some (.ref fa) →
      ∃ (K : PySem.W.Frag) (fd : FuncData) (sp : Sp), K.In h ∧ (∀ (s : Shared) (u : Value), BindsTo s fd ⟨[u], []⟩ [(x, u)]) ∧
        (∀ (H : Hp) (a : Addr) (ns : List Int), ns.length ≤ n → (∀ z ∈ ns, Builtin.Int.intBits z ≤ 1048576) → Only H → SqL K H a (ns.map V.int) → sp [.ref a] H (fun v _ => v = .bl true) fun _ _ _ => False) ∧
        ∀ base : Heap, K.In base → base.Ns mainGlobals mg → FnOk l.prog w K mg base (CX w) k fa fd [x] sp)
    (hCX : ∀ (w : World) (H : Hp) (s : Shared) (e : Value) (s' : Shared), CX w [] H s (fun _ _ _ => False) e s' → False) :
    PySem.W.WalkO q loose XP YP l.row.toRowW d [] (fun f vs => PySem.call f vs) := by
  refine Att.attach_callB hn hdf fun w s₀ s₁ mg mb fa o pm cd doc a vs ns G Y ho hd hcd hmg hobj hints hlen hbits hg => ?_
  obtain ⟨K, fd, sp, KX, hb, hsp, hF⟩ := F w mg fa _ Y G.T.g hmg
  exact law_call KX G.T.g G.T.b G.T.builtins G.T.nolimit hg hobj hints (Nat.le_trans hlen hn2) hr hF hb (fun H hO hS => hsp H a ns hlen hbits hO hS) fun H e s' => hCX w H s₁ e s'
end Sh

/-! Sh27: trees of our own in slots. -/
namespace Sh
open PySem PySem.Spec PySem.Calls PyProof.Rows L2
section
variable {K : PySem.W.Frag} {M M' : Addr → Prop} {H H' : Hp}
theorem TrL.length : ∀ {vs : List V} {ts : List Tree} {F : List Addr}, TrL K M H vs ts F → vs.length = ts.length
  | _, _, _, .nil => rfl
  | _, _, _, .cons _ q => congrArg (· + 1) (TrL.length q)
theorem TrL.app : ∀ {vs ws : List V} {ts us : List Tree} {F F' : List Addr}, TrL K M H vs ts F → TrL K M H ws us F' → TrL K M H (vs ++ ws) (ts ++ us) (F ++ F')
  | _, _, _, _, _, _, .nil, r => r
  | _, _, _, _, _, _, .cons p q, r => by rw [List.append_assoc]; exact .cons p (TrL.app q r)
/-- leaves alone -/
theorem TrL.leaves : ∀ {vs : List V} {ds : List D}, RpA K (msk M H) vs ds → TrL K M H vs (ds.map .leaf) []
  | _, _, .nil => .nil
  | _, _, .cons p q => .cons (F1 := []) (.leaf p) (TrL.leaves q)
/-- the part at k, and another one in its place -/
theorem TrL.at : ∀ {vs : List V} {ts : List Tree} {F : List Addr} {k : Nat} {t : Tree}, TrL K M H vs ts F → ts[k]? = some t →
    ∃ v F1 F0 F2, vs[k]? = some v ∧ F = F1 ++ (F0 ++ F2) ∧ Tr K M H v t F0 ∧ ∀ (M' : Addr → Prop) (H' : Hp) (v' : V) (t' : Tree) (F' : List Addr), Kp (msk M H) (msk M' H') → (∀ a, a ∈ F1 ∨ a ∈ F2 → ∀ o, H a = some o → (∀ φ, o ≠ .ext φ) → H' a = some o) → Tr K M' H' v' t' F' →
      TrL K M' H' (vs.set k v') (ts.set k t') (F1 ++ (F' ++ F2))
  | _, _, _, k, t, .nil, h => by simp at h
  | _, _, _, 0, t, .cons (F1 := Fa) (F2 := Fb) p q, h => by
    simp at h; subst h
    exact ⟨_, [], Fa, Fb, rfl, rfl, p, fun M' H' v' t' F' e hk r => .cons (F1 := F') (F2 := Fb) r (q.chg e fun a m => hk a (.inr m))⟩
  | _, _, _, k + 1, t, .cons (F1 := Fa) (F2 := Fb) p q, h => by
    obtain ⟨v, F1, F0, F2, h1, h2, h3, h4⟩ := TrL.at (k := k) q (by simpa using h)
    subst h2
    refine ⟨v, Fa ++ F1, F0, F2, by simpa using h1, by rw [List.append_assoc], h3, fun M' H' v' t' F' e hk r => ?_⟩
    rw [List.append_assoc]
    exact .cons (p.chg e fun a m => hk a (.inl (List.mem_append_left _ m))) (h4 M' H' v' t' F' e (fun a m => hk a (m.elim (fun z => .inl (List.mem_append_right _ z)) .inr)) r)
end
/-! ### new trees -/
def EvW (G : Gx) (lv : Nat) (b b' : Nat) (te : TE) (ds : List Sd) (R : D → Prop) : Prop :=
  ∀ gs M H σ, G.st gs M b H σ ds → ∀ Q : VK, (∀ v d F H', R d → Ext H H' → Lim b' H' → (∀ a ∈ F, H a = none) → F.Nodup → Tr G.K (fun c => M c ∨ c ∈ F) H' v (full lv d) F → Q v H') → te σ H Q
section
variable {G : Gx} {p : Bool} {lv b b' b1 b2 : Nat} {te ta tb : TE} {tA : TA} {ds : List Sd} {R : D → Prop} {E : DE} {i : Nat} {t t0 : Tree} {F : List Addr} {d : D}
theorem EvW.imp {R' : D → Prop} (h : EvW G lv b b' te ds R) (k : ∀ d, R d → R' d) : EvW G lv b b' te ds R' := fun gs M H σ S Q q => h gs M H σ S Q fun v d F H' r => q v d F H' (k d r)
/-- .. is data, too -/
theorem EvW.evs (h : EvW G lv b b' te ds R) : EvS G p b b' te ds R := fun gs M H σ S Q k => h gs M H σ S Q fun v d F H' r e l hF nd tr => by
  have nM : ∀ a ∈ F, ¬ M a := fun a m z => S.liv a z (hF a m)
  have q := tr.rp (M' := mmk p M G.M0) (H' := H') (msk_sub fun c hc => by
    cases p with
    | true => exact .inl hc
    | false => exact .inl (S.m0 c hc)) fun a m o ho _ => by
    rw [msk_no]
    · exact ho
    · cases p with
      | true => exact nM a m
      | false => exact fun z => nM a m (S.m0 a z)
  rw [full_d] at q
  exact k v d H' r e l q
theorem ew_dnew : EvW G (lv + 1) b b tDNewK ds (fun d => d = .dct []) := fun gs M H σ S Q k => fun q hq =>
  k _ _ [q] _ rfl (Ext.new hq) (S.lim.upd fun _ z => nomatch z) (fun a m => by rw [List.mem_singleton.mp m]; exact hq) (List.nodup_cons.mpr ⟨fun z => (nomatch z), List.nodup_nil⟩) (.node (n := .dct []) (vs := []) upd_same ⟨rfl, rfl⟩ .nil)
theorem EvO.evw {R : List D → Prop} (h : EvO G b b' te ds R) : EvW G 1 b b' te ds (fun d => ∃ xs, d = .lst xs ∧ R xs) := fun gs M H σ S Q k =>
  h gs M H σ S Q fun a vs xs H' r e l hn ha rr => k _ _ [a] H' ⟨xs, rfl, r⟩ e l (fun c m => by rw [List.mem_singleton.mp m]; exact hn) (List.nodup_cons.mpr ⟨fun z => (nomatch z), List.nodup_nil⟩) (.node (n := .lst) ha rfl (TrL.leaves (rr.mono (msk_sub fun c hc => hc.imp_right List.mem_singleton.mp))))
/-- name = .., a tree of our own from now on -/
theorem ws_tre (h : EvW G lv b b' te ds R) (k : ∀ d F, R d → E.nx (ds.set i (.tre (full lv d) F)) b') : Wt G b (tAsg te (gName i)) ds E := fun gs M H σ S Dn w =>
  h gs M H σ S _ fun v d F H' r e l hF nd tr => w.nx _ b' H' _ _ (S.adoptG (i := i) (s := some v) (sd := .tre (full lv d) F) (P := fun a => a ∈ F) hF e l (fun a m => tr.liv a m) ⟨v, rfl, fun a m => .inr m, nd, tr⟩ fun a m => m) (k d F r)
theorem Stt.treL {gs : List (V × D)} {M : Addr → Prop} {H : Hp} {σ : List (Option V)} (S : G.st gs M b H σ ds) (h : ds[i]? = some (.tre t F)) : ∃ v, σ[i]? = some (some v) ∧ (∀ a ∈ F, M a ∧ ¬ G.M0 a) ∧ F.Nodup ∧ Tr G.K M H v t F := by
  have hi : i < σ.length := by
    rw [S.len]
    exact (List.getElem?_eq_some_iff.mp h).1
  obtain ⟨v, e, m, nd, tr⟩ := S.sl i _ _ (List.getElem?_eq_getElem hi) h
  have es : σ[i]? = some (some v) := by rw [List.getElem?_eq_getElem hi, e]
  exact ⟨v, es, fun a ha => ⟨m a ha, S.ownNew i a ⟨_, _, es, h, ha⟩⟩, nd, tr⟩
/-- read: it can't be kept -/
theorem ev_tre (h : ds[i]? = some (.tre t F)) : EvD G false b b (tVar i) ds t.d := fun gs M H σ S Q k => by
  obtain ⟨v, e, m, nd, tr⟩ := S.treL h
  refine ⟨v, e, k v _ H rfl (Ext.refl H) S.lim (tr.rp (msk_sub S.m0) fun a ha o ho _ => ?_)⟩
  show msk G.M0 H a = some o
  rw [msk_no (m a ha).2]
  exact ho
/-- data from now on -/
theorem w_freezeT {ts : TS} (h : ds[i]? = some (.tre t F)) (k : Wt G b ts (ds.set i (.dat t.d)) E) : Wt G b ts ds E := fun gs M H σ S Dn w => by
  obtain ⟨v, e, m, nd, tr⟩ := S.treL h
  obtain ⟨M', _, S'⟩ := S.freezeG (i := i) (d := t.d) e fun M' hM => tr.rp (msk_sub fun c hc => (hM c hc).1) fun a ha o ho _ => by
    rw [msk_no fun z => (hM a z).2 ⟨_, _, e, h, ha⟩]
    exact ho
  exact k gs M' H σ S' Dn w
/-! ### a part of a tree -/
def EvF (G : Gx) (b b' : Nat) (te : TE) (ds : List Sd) (i : Nat) (t t0 : Tree) (put : Tree → Tree) : Prop :=
  ∀ gs M H σ F, G.st gs M b H σ ds → ds[i]? = some (.tre t F) → ∀ Q : VK, (∀ v H' r F1 F0 F2, Ext H H' → Lim b' H' → σ[i]? = some (some r) → F = F1 ++ (F0 ++ F2) → Tr G.K M H' v t0 F0 →
    (∀ (M' : Addr → Prop) (H'' : Hp) (t0' : Tree) (F0' : List Addr), Kp (msk M H') (msk M' H'') → (∀ a, a ∈ F1 ∨ a ∈ F2 → ∀ o, H' a = some o → (∀ φ, o ≠ .ext φ) → H'' a = some o) → Tr G.K M' H'' v t0' F0' → Tr G.K M' H'' r (put t0') (F1 ++ (F0' ++ F2))) → Q v H') → te σ H Q
theorem ef_var : EvF G b b (tVar i) ds i t t id := fun gs M H σ F S h Q k => by
  obtain ⟨v, e, m, nd, tr⟩ := S.treL h
  exact ⟨v, e, k v H v [] F [] (Ext.refl H) S.lim e (by simp) tr fun M' H'' t0' F0' _ _ q => by simpa using q⟩
end
section
variable {G : Gx} {p : Bool} {lv b b' b1 b2 n m c : Nat} {te : TE} {t tk : TA} {ds : List Sd} {R : D → Prop} {E : DE} {i : Nat} {d : D} {F : Fd} {Ex : L2.St → XK} {es fs : List D} {Fa : List Addr}
/-- return of a new tree -/
theorem ws_retW (h : EvW G lv b b' te ds R) (k : ∀ d, R d → E.rt d ds b') (ho : E.ro2 = lv + 2 := by rfl) : Wt G b (tRet te) ds E := fun gs M H σ S Dn w =>
  h gs M H σ S _ fun v d F H' r e l hF nd tr => by
    have nM : ∀ a ∈ F, ¬ M a := fun a m z => S.liv a z (hF a m)
    have q := tr.rp (M' := G.M0) (H' := H') (msk_sub fun c hc => .inl (S.m0 c hc)) fun a m o ho _ => by
      rw [msk_no fun z => nM a m (S.m0 a z)]
      exact ho
    rw [full_d] at q
    exact w.rt M b' H' σ ds v d (S.step e l) (k d r) q fun _ => (by
      rw [ho]
      exact ⟨F, fun a m => S.ext.free (hF a m), nd, tr.chg (msk_sub fun c hc => hc.imp (S.m0 c) id) fun a _ o ho _ => ho⟩)
/-- return of a tree of our own -/
theorem w_retT (hi : ds[i]? = some (.tre (full lv d) Fa)) (k : E.rt d ds b) (ho : E.ro2 = lv + 2 := by rfl) : Wt G b (tRet (tVar i)) ds E := fun gs M H σ S Dn w => by
  obtain ⟨v, e, m, nd, tr⟩ := S.treL hi
  have q := tr.rp (M' := G.M0) (H' := H) (msk_sub fun c hc => S.m0 c hc) fun a ha o ho _ => by
    rw [msk_no (m a ha).2]
    exact ho
  rw [full_d] at q
  refine ⟨v, e, w.rt M b H σ ds v d S k q fun _ => ?_⟩
  rw [ho]
  exact ⟨Fa, fun a ha => S.new a (m a ha).1 (m a ha).2, nd, tr.chg (msk_sub fun c hc => hc.elim (S.m0 c) fun z => (m c z).1) fun a _ o ho _ => ho⟩
/-- a call whose answer is a new tree -/
theorem ews_calK (ha : EaD G true b b1 t ds es) (hk : EaD G true b1 b2 tk ds fs) (hn : es.length = n) (hm : fs.length = m) (hF : (es ++ fs).length = F.n) (hd : F.dom (es ++ fs)) (hc : F.cost (es ++ fs) + b' ≤ b2) (hx : ∀ C x, ¬ F.exn (es ++ fs) C x) (ho : F.own = true := by rfl) (ho2 : F.own2 = lv + 2 := by rfl) :
    EvW G lv b b' (tCl n m (SpD G.K F) (fun vs zs => vs ++ zs) Ex t tk) ds (fun d => F.res (es ++ fs) d) := fun gs M H σ S Q k =>
  ha gs M H σ S _ fun vs es' H1 r1 e1 l1 rp1 => hk gs M H1 σ (S.step e1 l1) _ fun zs fs' H2 r2 e2 l2 rp2 => by
    subst r1 r2
    have S2 := (S.step e1 l1).step e2 l2
    refine ⟨by rw [rp1.length, hn], by rw [rp2.length, hm], es' ++ fs', M, b', S2.liv, l2.mono hc, (rp1.mono (msk_mono e2.toKp)).append rp2, hF, hd, fun v d H3 rd e3 l3 rp3 o => ?_, fun C dd fsV x H3 rx => absurd rx (hx C x)⟩
    have o := o ho
    rw [ho2] at o
    obtain ⟨Fn, q1, q2, q3⟩ := o
    exact k v d Fn H3 rd ((e1.trans e2).trans e3) l3 (fun a m => (e1.trans e2).free (q1 a m)) q2 q3
theorem ew_calK {z : D} (ha : EaD G true b b1 t ds es) (hk : EaD G true b1 b2 tk ds fs) (h : Cal F (es ++ fs) z) (hn : es.length = n) (hm : fs.length = m) (ho : F.own = true := by rfl) (ho2 : F.own2 = lv + 2 := by rfl) :
    EvW G lv b b2 (tCl n m (SpD G.K F) (fun vs zs => vs ++ zs) Ex t tk) ds (fun d => d = z) := (ews_calK ha hk hn hm h.n h.dom (by rw [h.cost]; omega) h.exn ho ho2).imp fun d q => h.res d q
theorem ew_cal {z : D} (ha : EaD G true b b1 t ds es) (h : Cal F es z) (hn : es.length = n) (ho : F.own = true := by rfl) (ho2 : F.own2 = lv + 2 := by rfl) :
    EvW G lv b b1 (tCl n 0 (SpD G.K F) (fun vs _ => vs) Ex t tNil) ds (fun d => d = z) := fun gs M H σ S Q k =>
  ha gs M H σ S _ fun vs es' H1 r1 e1 l1 rp1 => by
    subst r1
    have S1 := S.step e1 l1
    refine ⟨by rw [rp1.length, hn], rfl, es', M, b1, S1.liv, l1.mono (by rw [h.cost]; omega), rp1, h.n, h.dom, fun v d H3 rd e3 l3 rp3 o => ?_, fun C dd fsV x H3 rx => absurd rx (h.exn C x)⟩
    have o := o ho
    rw [ho2] at o
    obtain ⟨Fn, q1, q2, q3⟩ := o
    exact k v d Fn H3 (h.res d rd) (e1.trans e3) l3 (fun a m => e1.free (q1 a m)) q2 q3
theorem ew_calD {z : D} {vz : List V} {dz : List D} (hz : ∀ H : Hp, RpA G.K H vz dz) (ha : EaD G true b b1 t ds es) (h : Cal F (es ++ dz) z) (hn : es.length = n) (ho : F.own = true := by rfl) (ho2 : F.own2 = lv + 2 := by rfl) :
    EvW G lv b b1 (tCl n 0 (SpD G.K F) (fun vs _ => vs ++ vz) Ex t tNil) ds (fun d => d = z) := fun gs M H σ S Q k =>
  ha gs M H σ S _ fun vs es' H1 r1 e1 l1 rp1 => by
    subst r1
    have S1 := S.step e1 l1
    refine ⟨by rw [rp1.length, hn], rfl, es' ++ dz, M, b1, S1.liv, l1.mono (by rw [h.cost]; omega), rp1.append (hz _), h.n, h.dom, fun v d H3 rd e3 l3 rp3 o => ?_, fun C dd fsV x H3 rx => absurd rx (h.exn C x)⟩
    have o := o ho
    rw [ho2] at o
    obtain ⟨Fn, q1, q2, q3⟩ := o
    exact k v d Fn H3 (h.res d rd) (e1.trans e3) l3 (fun a m => e1.free (q1 a m)) q2 q3
end
/-! ### dicts by keys -/
def kD : Key → D
  | .inl i => .int i
  | .inr s => .str s
theorem kD_v {K : PySem.W.Frag} {H : Hp} {v : V} {k : Key} (h : Rp K H v (kD k)) : v = kV k := by
  cases k with
  | inl i => cases h; rfl
  | inr s => cases h; rfl
section
variable {κ : Type} [DecidableEq κ]
theorem valV_zip : ∀ {ks : List κ} {vs : List V} {j : Nat} {k : κ}, ks.length = vs.length → ks.Nodup → ks[j]? = some k → valV (ks.zip vs) k = vs[j]?
  | [], _, j, k, _, _, h => by simp at h
  | x :: ks, [], j, k, hl, _, _ => by simp at hl
  | x :: ks, v :: vs, 0, k, hl, nd, h => by
    simp at h
    rw [List.zip_cons_cons, valV_pos (show (x, v).1 = k from h)]
    rfl
  | x :: ks, v :: vs, j + 1, k, hl, nd, h => by
    obtain ⟨h1, h2⟩ := List.nodup_cons.mp nd
    have hj : ks[j]? = some k := by simpa using h
    rw [List.zip_cons_cons, valV_neg (fun z => h1 (by rw [show x = k from z]; exact List.mem_of_getElem? hj)), valV_zip (by simpa using hl) h2 hj]
    rfl
theorem any_zip : ∀ {ks : List κ} {vs : List V} {k : κ}, ks.length = vs.length → ((ks.zip vs).any fun kv => decide (kv.1 = k)) = decide (k ∈ ks)
  | [], _, k, _ => by simp
  | x :: ks, [], k, hl => by simp at hl
  | x :: ks, v :: vs, k, hl => by
    rw [List.zip_cons_cons, List.any_cons, any_zip (by simpa using hl)]
    by_cases h : x = k
    · simp [h]
    · simp [h, Ne.symm h]
theorem putK_new {ks : List κ} {vs : List V} {k : κ} {v : V} (hl : ks.length = vs.length) (h : k ∉ ks) : putK (ks.zip vs) k v = (ks ++ [k]).zip (vs ++ [v]) := by
  unfold putK
  rw [any_zip hl, if_neg (by simpa using h), List.zip_append hl]
  rfl
theorem map_put_ne : ∀ {ks : List κ} {vs : List V} {k : κ} {v : V}, k ∉ ks → (ks.zip vs).map (fun kv => if kv.1 = k then (kv.1, v) else kv) = ks.zip vs
  | [], _, k, v, _ => by simp
  | x :: ks, [], k, v, _ => by simp
  | x :: ks, u :: vs, k, v, h => by
    rw [List.zip_cons_cons, List.map_cons, map_put_ne fun z => h (List.mem_cons_of_mem _ z), if_neg fun z => h (by rw [← show x = k from z]; exact List.mem_cons_self)]
theorem putK_old {ks : List κ} {vs : List V} {k : κ} {v : V} (hl : ks.length = vs.length) (nd : ks.Nodup) {j : Nat} (h : ks[j]? = some k) : putK (ks.zip vs) k v = ks.zip (vs.set j v) := by
  unfold putK
  rw [any_zip hl, if_pos (by simpa using List.mem_of_getElem? h)]
  induction ks generalizing vs j with
  | nil => simp at h
  | cons x ks ih =>
    cases vs with
    | nil => simp at hl
    | cons u vs =>
      obtain ⟨h1, h2⟩ := List.nodup_cons.mp nd
      cases j with
      | zero =>
        simp at h
        subst h
        rw [List.set_cons_zero, List.zip_cons_cons, List.zip_cons_cons, List.map_cons, if_pos rfl, map_put_ne h1]
      | succ j =>
        have hj : ks[j]? = some k := by simpa using h
        rw [List.set_cons_succ, List.zip_cons_cons, List.zip_cons_cons, List.map_cons, ih (by simpa using hl) h2 hj, if_neg fun z => h1 (by rw [show x = k from z]; exact List.mem_of_getElem? hj)]
end
section
variable {G : Gx} {p : Bool} {lv b b' b1 b2 : Nat} {te ta tb ti tv : TE} {tA : TA} {ds : List Sd} {R : D → Prop} {E : DE} {i j : Nat} {t t0 t1 : Tree} {F : List Addr} {d : D} {put : Tree → Tree} {ts : List Tree} {m : Int} {ks : List Key} {key : Key}
/-- one step down, whatever the node -/
theorem focus_step {M : Addr → Prop} {H1 H2 : Hp} {K : PySem.W.Frag} {r : V} {a : Addr} {o : HO} {n : Nd} {vs : List V} {F1 F0 F2 : List Addr} {k : Nat} (e2 : Ext H1 H2) (ha : H1 a = some o) (ho : n.ho vs o) (q : TrL K M H1 vs ts F0) (hk : ts[k]? = some t1)
    (cl : ∀ (M' : Addr → Prop) (H'' : Hp) (t0' : Tree) (F0' : List Addr), Kp (msk M H1) (msk M' H'') → (∀ a, a ∈ F1 ∨ a ∈ F2 → ∀ o, H1 a = some o → (∀ φ, o ≠ .ext φ) → H'' a = some o) → Tr K M' H'' (.ref a) t0' F0' → Tr K M' H'' r (put t0') (F1 ++ (F0' ++ F2))) :
    ∃ w G1 G0 G2, vs[k]? = some w ∧ F1 ++ ((a :: F0) ++ F2) = G1 ++ (G0 ++ G2) ∧ Tr K M H2 w t1 G0 ∧
      ∀ (M' : Addr → Prop) (H'' : Hp) (t0' : Tree) (F0' : List Addr), Kp (msk M H2) (msk M' H'') → (∀ a, a ∈ G1 ∨ a ∈ G2 → ∀ o, H2 a = some o → (∀ φ, o ≠ .ext φ) → H'' a = some o) → Tr K M' H'' w t0' F0' → Tr K M' H'' r (put (.node n (ts.set k t0'))) (G1 ++ (F0' ++ G2)) := by
  obtain ⟨w, G1, G0, G2, hw, hF, trw, cl2⟩ := q.at hk
  subst hF
  refine ⟨w, F1 ++ (a :: G1), G0, G2 ++ F2, hw, by simp, trw.chg (msk_mono e2.toKp) (fun c _ u hu n => e2.keep c u hu n), fun M' H'' t0' F0' kp keep tr' => ?_⟩
  have kp1 := (msk_mono (M := M) e2.toKp).trans kp
  have kept : ∀ c, c ∈ F1 ++ (a :: G1) ∨ c ∈ G2 ++ F2 → ∀ u, H1 c = some u → (∀ φ, u ≠ .ext φ) → H'' c = some u := fun c hc u hu n => keep c hc u (e2.keep c u hu n) n
  have hs : vs.set k w = vs := by
    obtain ⟨hi, e⟩ := List.getElem?_eq_some_iff.mp hw
    rw [← e]
    exact List.set_getElem_self hi
  have tl := cl2 M' H'' w t0' F0' kp1 (fun c hc u hu n => kept c (hc.elim (fun z => .inl (List.mem_append_right _ (List.mem_cons_of_mem _ z))) fun z => .inr (List.mem_append_left _ z)) u hu n) tr'
  rw [hs] at tl
  have q2 := cl M' H'' (.node n (ts.set k t0')) (a :: (G1 ++ (F0' ++ G2))) kp1 (fun c hc u hu n => kept c (hc.elim (fun z => .inl (List.mem_append_left _ z)) fun z => .inr (List.mem_append_right _ z)) u hu n) (.node (kept a (.inl (List.mem_append_right _ List.mem_cons_self)) o ha (Nd.noext ho)) ho tl)
  have e3 : F1 ++ (a :: (G1 ++ (F0' ++ G2)) ++ F2) = F1 ++ (a :: G1) ++ (F0' ++ (G2 ++ F2)) := by simp
  rw [e3] at q2
  exact q2
theorem ef_ixL (h : EvF G b b1 te ds i t (.node .lst ts) put) (hi : EvD G p b1 b2 ti ds (.int m)) (h0 : 0 ≤ m) (hk : ts[m.toNat]? = some t1) : EvF G b b2 (tOp (rIxA G.K) te ti) ds i t t1 (fun z => put (.node .lst (ts.set m.toNat z))) := fun gs M H σ F S hds Q k =>
  h gs M H σ F S hds _ fun v H1 r F1 F0 F2 e l hr hF tr cl => hi gs M H1 σ (S.step e l) _ fun u d H2 rd e2 l2 rp => by
    subst rd
    cases rp
    cases tr with
    | @node a o n vs _ F0 ha ho q =>
      obtain ⟨w, G1, G0, G2, hw, hF', trw, cl'⟩ := focus_step e2 ha ho q hk cl
      have ho' : o = .lst vs := ho
      subst ho'
      have ha2 := e2.keep _ _ ha fun _ z => nomatch z
      have hlt : m.toNat < vs.length := (List.getElem?_eq_some_iff.mp hw).1
      exact .inl ⟨a, vs, m, w, rfl, rfl, SqL.of ha2, by unfold L2.atI; rw [ixN_nn h0 (by omega)]; exact hw, k w H2 r G1 G0 G2 (e.trans e2) l2 hr (hF.trans hF') trw cl'⟩
theorem ef_ixD (h : EvF G b b1 te ds i t (.node (.dct ks) ts) put) (hi : EvD G p b1 b2 ti ds (kD key)) (nd : ks.Nodup) (hj : ks[j]? = some key) (hk : ts[j]? = some t1) : EvF G b b2 (tOp (rIxA G.K) te ti) ds i t t1 (fun z => put (.node (.dct ks) (ts.set j z))) := fun gs M H σ F S hds Q k =>
  h gs M H σ F S hds _ fun v H1 r F1 F0 F2 e l hr hF tr cl => hi gs M H1 σ (S.step e l) _ fun u d H2 rd e2 l2 rp => by
    subst rd
    have eu := kD_v rp
    subst eu
    cases tr with
    | @node a o n vs _ F0 ha ho q =>
      obtain ⟨w, G1, G0, G2, hw, hF', trw, cl'⟩ := focus_step e2 ha ho q hk cl
      obtain ⟨hl, ho'⟩ := ho
      subst ho'
      have ha2 := e2.keep _ _ ha fun _ z => nomatch z
      exact .inr (.inr (.inr ⟨a, w, rfl, by rw [← hw, ← valV_zip hl nd hj]; exact DGet.k ha2, k w H2 r G1 G0 G2 (e.trans e2) l2 hr (hF.trans hF') trw cl'⟩))
/-- an object of the tree is changed in place -/
theorem Stt.mutT {gs : List (V × D)} {M : Addr → Prop} {H : Hp} {σ : List (Option V)} {r : V} {a : Addr} {o' : HO} {n : Nd} {F1 F0 F0' F2 : List Addr} {t' : Tree} (S : G.st gs M b H σ ds) (hds : ds[i]? = some (.tre t F)) (hr : σ[i]? = some (some r)) (hF : F = F1 ++ ((a :: F0) ++ F2)) (hx : ∀ φ, o' ≠ .ext φ) (hsub : F0'.Sublist F0)
    (tr' : Tr G.K M (upd H a o') r t' (F1 ++ ((a :: F0') ++ F2))) : G.st gs M b (upd H a o') σ (ds.set i (.tre t' (F1 ++ ((a :: F0') ++ F2)))) := by
  obtain ⟨v, e, m, nd, tr⟩ := S.treL hds
  rw [hr] at e
  cases e
  have sub : (F1 ++ ((a :: F0') ++ F2)).Sublist F := by
    rw [hF]
    exact ((List.Sublist.refl F1).append ((hsub.cons₂ a).append (List.Sublist.refl F2)))
  have haF : a ∈ F := by rw [hF]; simp
  exact S.chgO (i := i) ⟨_, _, hr, hds, haF⟩ hr hx (fun H' h1 h2 h3 => ⟨r, rfl, fun c hc => (m c (sub.subset hc)).1, nd.sublist sub, by
    have eH : H' = upd H a o' := by
      funext c
      by_cases hc : c = a
      · rw [hc, h1, upd_same]
      · rw [h2 c hc, upd_ne hc]
    rw [eH]
    exact tr'⟩) fun c hc => ⟨_, _, hr, hds, sub.subset hc⟩
theorem tre_at {gs : List (V × D)} {M : Addr → Prop} {H : Hp} {σ : List (Option V)} {a : Addr} {F1 F0 F2 : List Addr} (S : G.st gs M b H σ ds) (hds : ds[i]? = some (.tre t F)) (hF : F = F1 ++ ((a :: F0) ++ F2)) : M a ∧ ∀ c, c ∈ F1 ∨ c ∈ F2 ∨ c ∈ F0 → c ≠ a := by
  obtain ⟨v, e, m, nd, tr⟩ := S.treL hds
  rw [hF] at nd m
  refine ⟨(m a (by simp)).1, fun c hc z => ?_⟩
  subst z
  have n1 := List.nodup_append.mp nd
  have n2 := List.nodup_append.mp n1.2.1
  rcases hc with hc | hc | hc
  · exact n1.2.2 c hc c (by simp) rfl
  · exact n2.2.2 c (by simp) c hc rfl
  · exact (List.nodup_cons.mp n2.1).1 hc
/-- .. .append(e) -/
theorem w_appT (hds : ds[i]? = some (.tre t F)) (h : EvF G b b1 te ds i t (.node .lst ts) put) (he : EvD G true b1 b2 ta ds d) (hl : ts.length < 100000) (k : ∀ F', E.nx (ds.set i (.tre (put (.node .lst (ts ++ [.leaf d]))) F')) b2) :
    Wt G b (tDrop (tBM G.K "list" rAppend te (tCons ta tNil))) ds E := fun gs M H σ S Dn w => by
  refine h gs M H σ F S hds _ fun v H1 r F1 F0 F2 e l hr hF tr cl => ?_
  cases tr with
  | @node a o n vs _ F0 ha ho q =>
    have ho' : o = .lst vs := ho
    subst ho'
    refine ⟨.inl ⟨rfl, vs, SqL.of ha⟩, ?_⟩
    refine he gs M H1 σ (S.step e l) _ fun u d' H2 rd e2 l2 rp => ?_
    subst rd
    have S2 := (S.step e l).step e2 l2
    have ha2 := e2.keep _ _ ha fun _ z => nomatch z
    refine ⟨a, vs, u, rfl, rfl, ha2, by rw [q.length]; exact Nat.lt_of_lt_of_le hl (by decide), ?_⟩
    obtain ⟨ma, na⟩ := tre_at S2 hds hF
    have kp : Kp (msk M H1) (msk M (upd H2 a (.lst (vs ++ [u])))) := by rw [msk_upd ma]; exact msk_mono e2.toKp
    have kept : ∀ c, c ∈ F1 ∨ c ∈ F2 ∨ c ∈ F0 → ∀ z, H1 c = some z → (∀ φ, z ≠ .ext φ) → (upd H2 a (.lst (vs ++ [u]))) c = some z := fun c hc z hz n => by rw [upd_ne (na c hc)]; exact e2.keep c z hz n
    have q2 := (q.chg kp fun c hc z hz n => kept c (.inr (.inr hc)) z hz n).app (.cons (.leaf (d := d') (by rw [msk_upd ma]; exact rp)) .nil)
    simp only [List.append_nil] at q2
    have tr' := cl M _ (.node .lst (ts ++ [.leaf d'])) (a :: F0) kp (fun c hc z hz n => kept c (hc.elim .inl fun z => .inr (.inl z)) z hz n) (.node upd_same rfl q2)
    exact w.nx M b2 _ σ _ (S2.mutT (n := .lst) hds hr hF (fun _ z => nomatch z) (List.Sublist.refl _) tr') (k _)
/-- ..[k] = e, a dict, a new key -/
theorem w_putT_new (hds : ds[i]? = some (.tre t F)) (hv : EvD G true b b' tv ds d) (h : EvF G b' b1 te ds i t (.node (.dct ks) ts) put) (hi : EvD G p b1 b2 ti ds (kD key)) (hn : key ∉ ks) (hl : ts.length < 16000) (k : ∀ F', E.nx (ds.set i (.tre (put (.node (.dct (ks ++ [key])) (ts ++ [.leaf d]))) F')) b2) :
    Wt G b (tAsg tv (gSub te ti rSetA)) ds E := fun gs M H σ S Dn w => by
  refine hv gs M H σ S _ fun x d' H0 rd0 e0 l0 rp0 => ?_
  subst rd0
  have S0 := S.step e0 l0
  refine h gs M H0 σ F S0 hds _ fun v H1 r F1 F0 F2 e l hr hF tr cl => ?_
  refine hi gs M H1 σ (S0.step e l) _ fun u d2 H2 rd e2 l2 rp => ?_
  subst rd
  have eu := kD_v rp
  subst eu
  cases tr with
  | @node a o n vs _ F0 ha ho q =>
    obtain ⟨hlk, ho'⟩ := ho
    subst ho'
    have S2 := (S0.step e l).step e2 l2
    have ha2 := e2.keep _ _ ha fun _ z => nomatch z
    have hz : (ks.zip vs).length < sizeLine := by rw [List.length_zip, hlk, Nat.min_self, q.length]; exact Nat.lt_of_lt_of_le hl (by decide)
    refine .inr ⟨a, _, rfl, DPut.k ha2 hz, ?_⟩
    rw [putK_new hlk hn]
    obtain ⟨ma, na⟩ := tre_at S2 hds hF
    generalize ho' : HO.dK ((ks ++ [key]).zip (vs ++ [x])) = o'
    have hx : ∀ φ, o' ≠ .ext φ := fun φ z => by rw [← ho'] at z; cases z
    have kp : Kp (msk M H1) (msk M (upd H2 a o')) := by rw [msk_upd ma]; exact msk_mono e2.toKp
    have kept : ∀ c, c ∈ F1 ∨ c ∈ F2 ∨ c ∈ F0 → ∀ z, H1 c = some z → (∀ φ, z ≠ .ext φ) → (upd H2 a o') c = some z := fun c hc z hz n => by rw [upd_ne (na c hc)]; exact e2.keep c z hz n
    have q2 := (q.chg kp fun c hc z hz n => kept c (.inr (.inr hc)) z hz n).app (.cons (.leaf (d := d') (by rw [msk_upd ma]; exact (rp0.mono (msk_mono e.toKp)).mono (msk_mono e2.toKp))) .nil)
    simp only [List.append_nil] at q2
    have tr' := cl M _ (.node (.dct (ks ++ [key])) (ts ++ [.leaf d'])) (a :: F0) kp (fun c hc z hz n => kept c (hc.elim .inl fun z => .inr (.inl z)) z hz n) (.node upd_same ⟨by simp [hlk], ho'.symm⟩ q2)
    exact w.nx M b2 _ σ _ (S2.mutT (n := .lst) hds hr hF hx (List.Sublist.refl _) tr') (k _)
/-- .. a key that is there -/
theorem w_putT_old (hds : ds[i]? = some (.tre t F)) (hv : EvD G true b b' tv ds d) (h : EvF G b' b1 te ds i t (.node (.dct ks) ts) put) (hi : EvD G p b1 b2 ti ds (kD key)) (nd : ks.Nodup) (hj : ks[j]? = some key) (hl : ts.length < 16000) (k : ∀ F', E.nx (ds.set i (.tre (put (.node (.dct ks) (ts.set j (.leaf d)))) F')) b2) :
    Wt G b (tAsg tv (gSub te ti rSetA)) ds E := fun gs M H σ S Dn w => by
  refine hv gs M H σ S _ fun x d' H0 rd0 e0 l0 rp0 => ?_
  subst rd0
  have S0 := S.step e0 l0
  refine h gs M H0 σ F S0 hds _ fun v H1 r F1 F0 F2 e l hr hF tr cl => ?_
  refine hi gs M H1 σ (S0.step e l) _ fun u d2 H2 rd e2 l2 rp => ?_
  subst rd
  have eu := kD_v rp
  subst eu
  cases tr with
  | @node a o n vs _ F0 ha ho q =>
    obtain ⟨hlk, ho'⟩ := ho
    subst ho'
    have S2 := (S0.step e l).step e2 l2
    have ha2 := e2.keep _ _ ha fun _ z => nomatch z
    have hz : (ks.zip vs).length < sizeLine := by rw [List.length_zip, hlk, Nat.min_self, q.length]; exact Nat.lt_of_lt_of_le hl (by decide)
    refine .inr ⟨a, _, rfl, DPut.k ha2 hz, ?_⟩
    rw [putK_old hlk nd hj]
    obtain ⟨ma, na⟩ := tre_at S2 hds hF
    generalize ho' : HO.dK (ks.zip (vs.set j x)) = o'
    have hx : ∀ φ, o' ≠ .ext φ := fun φ z => by rw [← ho'] at z; cases z
    have kp : Kp (msk M H1) (msk M (upd H2 a o')) := by rw [msk_upd ma]; exact msk_mono e2.toKp
    have kept : ∀ c, c ∈ F1 ∨ c ∈ F2 ∨ c ∈ F0 → ∀ z, H1 c = some z → (∀ φ, z ≠ .ext φ) → (upd H2 a o') c = some z := fun c hc z hz n => by rw [upd_ne (na c hc)]; exact e2.keep c z hz n
    have hjt : j < ts.length := by
      have := (List.getElem?_eq_some_iff.mp hj).1
      have := q.length
      omega
    obtain ⟨w0, G1, G0, G2, hw, hFs, trw, cl2⟩ := q.at (List.getElem?_eq_getElem hjt)
    subst hFs
    have q2 := cl2 M (upd H2 a o') x (.leaf d') [] kp (fun c hc z hz n => kept c (.inr (.inr (by rcases hc with hc | hc <;> simp [hc]))) z hz n) (.leaf (by rw [msk_upd ma]; exact (rp0.mono (msk_mono e.toKp)).mono (msk_mono e2.toKp)))
    have tr' := cl M _ (.node (.dct ks) (ts.set j (.leaf d'))) (a :: (G1 ++ ([] ++ G2))) kp (fun c hc z hz n => kept c (hc.elim .inl fun z => .inr (.inl z)) z hz n) (.node upd_same ⟨by rw [List.length_set]; exact hlk, ho'.symm⟩ q2)
    exact w.nx M b2 _ σ _ (S2.mutT (n := .lst) hds hr hF hx ((List.Sublist.refl G1).append ((List.nil_sublist G0).append (List.Sublist.refl G2))) tr') (k _)
end
end Sh

/-! Sh28: sorted of ints, of a dict's keys; dict comprehensions. -/
namespace Sh
open PySem PySem.Spec PySem.Calls PyProof.Rows L2
def rSortedDI : List V → Hp → VK → Prop := fun xs H Q => ∃ (a : Addr) (kvs : List (Key × V)) (ks : List Int), xs = [.ref a] ∧ Rd H a (.dK kvs) ∧ kvs.map (·.1) = ks.map Sum.inl ∧ ks.length < 64 ∧
    ∀ (ys : List Int) (p : Addr), ys.Perm ks → ys.Pairwise (· ≤ ·) → H p = none → Q (.ref p) (upd H p (.lst (ys.map V.int)))
def rSortedA (K : PySem.W.Frag) : List V → Hp → VK → Prop := fun xs H Q => rSortedI K xs H Q ∨ rSortedDI xs H Q
theorem g_sorted {X : Cx} {K : PySem.W.Frag} (hK : X.K = K) (hc : X.calm = true) : CallR X (.builtin "sorted") (rSortedA K) := by
  subst hK
  exact cr_sortedI.or (call_sortedDI hc)
theorem RpK.keys {K : PySem.W.Frag} {H : Hp} : ∀ {vs : List (Key × V)} {ds : List (Key × D)}, RpK K H vs ds → vs.map (·.1) = ds.map (·.1)
  | _, _, .nil => rfl
  | _, _, .cons _ q => by rw [List.map_cons, List.map_cons, RpK.keys q]
/-- sorted(d), d with int keys -/
theorem c_sortedD {K : PySem.W.Frag} {kds : List (Key × D)} {ks : List Int} (hk : kds.map (·.1) = ks.map Sum.inl) (hl : ks.length < 64) : ClA K (rSortedA K) [.dct kds] (fun d => ∃ ys : List Int, d = .lst (ys.map .int) ∧ ys.Perm ks ∧ ys.Pairwise (· ≤ ·)) := fun N b H vs Q hN l r k => by
  cases r with
  | cons r1 r =>
    cases r
    cases r1 with
    | dct ha rk =>
      refine .inr ⟨_, _, ks, rfl, .inl (msk_of ha).2, (RpK.keys rk).trans hk, hl, fun ys p h1 h2 hp => ?_⟩
      exact k _ _ _ ⟨ys, rfl, h1, h2⟩ (Ext.new hp) (l.upd fun _ z => nomatch z) (.lst (by rw [msk_no fun z => hN p z hp]; exact upd_same) RpA.of_ints)
/-- sorted(l), l ints -/
theorem c_sortedI {K : PySem.W.Frag} {ns : List Int} : ClA K (rSortedA K) [.lst (ns.map .int)] (fun d => ∃ ys : List Int, d = .lst (ys.map .int) ∧ ys.Perm ns ∧ ys.Pairwise (· ≤ ·)) := fun N b H vs Q hN l r k => by
  cases r with
  | cons r1 r =>
    cases r
    cases r1 with
    | lst ha rk =>
      have e := RpA.ints rk
      subst e
      refine .inl ⟨_, ns, rfl, SqL.of (msk_of ha).2, fun ys p h1 h2 hp => ?_⟩
      exact k _ _ _ ⟨ys, rfl, h1, h2⟩ (Ext.new hp) (l.upd fun _ z => nomatch z) (.lst (by rw [msk_no fun z => hN p z hp]; exact upd_same) RpA.of_ints)
theorem sorted_ext : ∀ {l1 l2 : List Int}, l1.Pairwise (· < ·) → l2.Pairwise (· < ·) → (∀ k, k ∈ l1 ↔ k ∈ l2) → l1 = l2
  | [], [], _, _, _ => rfl
  | [], y :: l2, _, _, h => absurd ((h y).mpr List.mem_cons_self) List.not_mem_nil
  | x :: l1, [], _, _, h => absurd ((h x).mp List.mem_cons_self) List.not_mem_nil
  | x :: l1, y :: l2, h1, h2, h => by
    obtain ⟨a1, a2⟩ := List.pairwise_cons.mp h1
    obtain ⟨b1, b2⟩ := List.pairwise_cons.mp h2
    have e : x = y := by
      rcases List.mem_cons.mp ((h x).mp List.mem_cons_self) with z | z
      · exact z
      · rcases List.mem_cons.mp ((h y).mpr List.mem_cons_self) with w | w
        · exact w.symm
        · have := b1 x z
          have := a1 y w
          omega
    subst e
    rw [sorted_ext a2 b2 fun k => ⟨fun z => ?_, fun z => ?_⟩]
    · rcases List.mem_cons.mp ((h k).mp (List.mem_cons_of_mem _ z)) with w | w
      · have := a1 k z
        omega
      · exact w
    · rcases List.mem_cons.mp ((h k).mpr (List.mem_cons_of_mem _ z)) with w | w
      · have := b1 k z
        omega
      · exact w
theorem lt_of_le {l : List Int} (h : l.Pairwise (· ≤ ·)) (nd : l.Nodup) : l.Pairwise (· < ·) := by
  have q := h.and nd
  exact q.imp fun ⟨a, b⟩ => by omega
theorem ClD.to {K : PySem.W.Frag} {r : List V → Hp → VK → Prop} {xs : List D} {z : D} {R : D → Prop} (h : ClD K r xs z) (i : R z) : ClA K r xs R := fun N b H v Q hN l r1 k => h N b H v Q hN l r1 fun z' d H' e x l rp => k z' d H' (by rw [e]; exact i) x l rp
theorem EvP.eq {G : Gx} {te : TE} {ds : List Sd} {d d' : D} (h : EvP G te ds d) (e : d = d') : EvP G te ds d' := e ▸ h
abbrev Tre : Type := Sh.Tree
theorem tre_dct (ks : List Key) (ts : List Tre) : Sh.Tree.d (.node (.dct ks) ts) = .dct (ks.zip (Sh.Tree.dL ts)) := by
  rw [Sh.Tree.d]
  rfl
theorem tre_lst (ts : List Tre) : Sh.Tree.d (.node .lst ts) = .lst (Sh.Tree.dL ts) := by
  rw [Sh.Tree.d]
  rfl
theorem dL_len : ∀ ts : List Tre, (Sh.Tree.dL ts).length = ts.length
  | [] => by rw [Sh.Tree.dL]; rfl
  | t :: ts => by rw [Sh.Tree.dL, List.length_cons, dL_len ts]; rfl
/-- the scope of a comprehension, the value of a statement -/
def scopeOf : Expr → Scope
  | .ListComp _ _ sc _ => sc
  | .SetComp _ _ sc _ => sc
  | .DictComp _ _ _ sc _ => sc
  | .GeneratorExp _ _ sc _ => sc
  | _ => default
def valOf : Stmt → Expr
  | .Return (some e) _ => e
  | .Assign _ e _ => e
  | .Expr e _ => e
  | _ => .Constant .none 0 ⟨0, 0, 0, 0⟩
theorem relab_lookup {p : Str → NameKind → Bool} : ∀ {names : List (Str × NameKind)} {x : Str} {k : NameKind}, names.lookup x = some k →
    ∃ k', (names.map fun (n, k) => if p n k then (n, NameKind.cell) else (n, k)).lookup x = some k' ∧ (k' = k ∨ k' = .cell)
  | [], _, _, h => by simp at h
  | (n, k0) :: r, x, k, h => by
    rw [List.map_cons]
    by_cases e : x = n
    · subst e
      rw [List.lookup_cons_self] at h
      cases h
      cases q : p x k0 with
      | true => exact ⟨.cell, by simp [q], .inr rfl⟩
      | false => exact ⟨k0, by simp [q], .inl rfl⟩
    · have h' : r.lookup x = some k := by
        rw [List.lookup_cons] at h
        rwa [show (x == n) = false from by simpa using e] at h
      obtain ⟨k', h1, h2⟩ := relab_lookup (p := p) h'
      refine ⟨k', ?_, h2⟩
      rw [← h1, List.lookup_cons]
      have : (x == (if p n k0 then (n, NameKind.cell) else (n, k0)).1) = false := by
        cases p n k0 <;> simpa using e
      rw [this]
/-- the block of a block -/
theorem BlkOk.rel {N : List Str} {sc scope : Scope} {own : List (Str × Nat)} {env : Env} (h : BlkOk N sc scope own) : BlkOk N (relabel sc env) scope own :=
  ⟨h.kind, h.uniq, h.ix, fun y hy e => by
    rcases h.free y hy e with q | q
    · obtain ⟨k', h1, h2⟩ := relab_lookup (p := fun n k => k == NameKind.free && env.scope.kind == .function && env.kindOf n == some .cell) q
      rcases h2 with rfl | rfl
      · exact .inl h1
      · exact .inl h1
    · obtain ⟨k', h1, h2⟩ := relab_lookup (p := fun n k => k == NameKind.free && env.scope.kind == .function && env.kindOf n == some .cell) q
      rcases h2 with rfl | rfl
      · exact .inr h1
      · exact .inl h1, h.own⟩
/-! ### {k: v for ..} -/
theorem kp_grow {M P : Addr → Prop} {H H' : Hp} (hp : ∀ a, P a → H a = none) (e : Ext H H') : Kp (msk M H) (msk (fun a => M a ∨ P a) H') := ⟨fun a o h n => by
    obtain ⟨h1, h2⟩ := msk_of h
    have na : ¬ P a := fun z => by rw [hp a z] at h2; cases h2
    rw [msk_no fun z => z.elim h1 na]
    exact e.keep a o h2 n, fun a n h => by
    obtain ⟨h1, h2⟩ := msk_of h
    have na : ¬ P a := fun z => by rw [hp a z] at h2; unfold PurseO at h2; cases h2
    obtain ⟨m, q⟩ := e.pz a n h2
    exact ⟨m, by rw [msk_no fun z => z.elim h1 na]; exact q⟩⟩
theorem ew_dc {G : Gx} {lv b b1 : Nat} {wi : TI} {g : TG} {tk tv : TE} {vs : List Nat} {ds : List Sd} {n : Nat} {it : Nat → D} (f : Nat → Key) (h : Nat → D) (hi : EvI G b b1 wi ds n it) (hn : n ≤ 16000) (hf : ∀ i j, i < j → j < n → f i ≠ f j)
    (hs : ∀ i, i < n → ∃ ds'', TgR G.K vs g (it i) (wipeD ds vs) ds'' ∧ ∀ b0, EvD G true b0 b0 tk ds'' (kD (f i)) ∧ EvW G lv b0 b0 tv ds'' (fun d => d = h i)) :
    EvW G (lv + 1) b b1 (tDc wi g tYes tk tv vs) ds (fun d => d = .dct ((List.range n).map fun i => (f i, h i))) := fun gs M H σ S Q k =>
  hi gs M H σ S _ fun J gs' H1 e l hg ok => fun D hD => by
    have S1 : Stt G.K G.H0 G.M0 (gs' ++ gs) M b1 H1 σ ds := (S.step e l).ghosts hg
    refine ⟨fun i m H => m = n - i ∧ i ≤ n ∧ ∃ us F, Ext H1 H ∧ Lim b1 H ∧ (∀ a ∈ D :: F, H1 a = none) ∧ (D :: F).Nodup ∧ H D = some (.dK (((List.range i).map f).zip us)) ∧ TrL G.K (fun a => M a ∨ a ∈ D :: F) H us ((List.range i).map fun j => full lv (h j)) F,
      ⟨n, by omega, Nat.zero_le _, [], [], Ext.new hD, S1.lim.upd (fun _ z => nomatch z), (fun a m => by rw [List.mem_singleton.mp m]; exact hD), List.nodup_cons.mpr ⟨fun z => (nomatch z), List.nodup_nil⟩, upd_same, .nil⟩, ?_⟩
    rintro i m H2 ⟨rfl, hin, us, F, e2, l2, hF, nd, hacc, tl⟩
    have hlv : ∀ a ∈ D :: F, H2 a ≠ none := fun a ha => by
      rcases List.mem_cons.mp ha with rfl | ha
      · rw [hacc]; exact fun z => nomatch z
      · exact tl.liv a ha
    have S2 : Stt G.K G.H0 G.M0 (gs' ++ gs) (fun a => M a ∨ a ∈ D :: F) b1 H2 σ ds := S1.growP (P := fun a => a ∈ D :: F) hF e2 l2 hlv
    by_cases hlt : i < n
    · refine .inr ⟨ok.go i _ H2 S2.gh' hlt, fun H => ∃ us F, Ext H1 H ∧ Lim b1 H ∧ (∀ a ∈ D :: F, H1 a = none) ∧ (D :: F).Nodup ∧ H D = some (.dK (((List.range (i + 1)).map f).zip us)) ∧ TrL G.K (fun a => M a ∨ a ∈ D :: F) H us ((List.range (i + 1)).map fun j => full lv (h j)) F, fun H' z => ⟨n - (i + 1), by omega, rfl, hlt, z⟩, fun x H3 y => ?_⟩
      obtain ⟨x1, x2, x3⟩ := ok.yld i _ H2 S2.gh' hlt x H3 y
      obtain ⟨ds'', t1, t2⟩ := hs i hlt
      have S3 := (S2.step x1 (x2 _ l2)).wipe vs
      refine t1 _ _ _ _ _ H3 _ x S3 x3 _ fun σ4 S4 ew => ⟨?_, ?_⟩
      · rw [ew]
        exact wipe_sub vs vs fun _ h => h
      · obtain ⟨q1, q2⟩ := t2 b1
        refine q1 _ _ H3 σ4 S4 _ fun y d4 H4 r4 e4 l4 rp4 => ?_
        subst r4
        have ey := kD_v rp4
        subst ey
        have S5 := S4.step e4 l4
        refine q2 _ _ H4 σ4 S5 _ fun z d5 F5 H5 r5 e5 l5 hF5 nd5 tr5 => ?_
        subst r5
        have e25 := (x1.trans e4).trans e5
        have hacc5 : H5 D = some (.dK (((List.range i).map f).zip us)) := e25.keep _ _ hacc fun _ z => nomatch z
        have ul : ((List.range i).map f).length = us.length := by rw [tl.length]; simp
        refine ⟨_, f i, rfl, hacc5, by rw [List.length_zip, List.length_map, List.length_range]; exact Nat.lt_of_le_of_lt (Nat.min_le_left _ _) (Nat.lt_of_le_of_lt hin (Nat.lt_of_le_of_lt hn (by decide))), ?_⟩
        have hni : f i ∉ (List.range i).map f := fun z => by
          obtain ⟨j, hj, ej⟩ := List.mem_map.mp z
          exact hf j i (List.mem_range.mp hj) hlt ej
        rw [putK_new ul hni]
        have ek : (List.range i).map f ++ [f i] = (List.range (i + 1)).map f := by rw [List.range_succ, List.map_append]; rfl
        rw [ek]
        -- the new ones are unlike the old ones
        have new5 : ∀ a ∈ F5, H2 a = none := fun a ha => (x1.trans e4).free (hF5 a ha)
        have dis : ∀ a ∈ F5, a ∉ D :: F := fun a ha z => hlv a z (new5 a ha)
        have memb : ∀ a, a ∈ D :: (F ++ F5) ↔ a ∈ D :: F ∨ a ∈ F5 := fun a => by simp [or_assoc]
        have hmask : (fun c => (M c ∨ c ∈ D :: F) ∨ c ∈ F5) = fun a => M a ∨ a ∈ D :: (F ++ F5) := by
          funext a
          apply propext
          rw [memb a, or_assoc]
        have kpu : ∀ o, msk (fun a => M a ∨ a ∈ D :: (F ++ F5)) (upd H5 D o) = msk (fun a => M a ∨ a ∈ D :: (F ++ F5)) H5 := fun o => msk_upd (.inr List.mem_cons_self)
        have DnF : D ∉ F := (List.nodup_cons.mp nd).1
        have DnF5 : D ∉ F5 := fun z => dis D z List.mem_cons_self
        have k1 : Kp (msk (fun a => M a ∨ a ∈ D :: F) H2) (msk (fun a => M a ∨ a ∈ D :: (F ++ F5)) H5) := by
          rw [← hmask]
          exact kp_grow (P := fun a => a ∈ F5) new5 e25
        have tl' : TrL G.K (fun a => M a ∨ a ∈ D :: (F ++ F5)) (upd H5 D (.dK (((List.range (i + 1)).map f).zip (us ++ [z])))) us ((List.range i).map fun j => full lv (h j)) F := tl.chg (by rw [kpu]; exact k1) fun a ha o ho no => by
          rw [upd_ne fun z => DnF (by rw [← z]; exact ha)]
          exact e25.keep a o ho no
        have tr' : Tr G.K (fun a => M a ∨ a ∈ D :: (F ++ F5)) (upd H5 D (.dK (((List.range (i + 1)).map f).zip (us ++ [z])))) z (full lv (h i)) F5 := tr5.chg (by rw [kpu, hmask]; exact Kp.refl _) fun a ha o ho no => by
          rw [upd_ne fun z => DnF5 (by rw [← z]; exact ha)]
          exact ho
        refine ⟨us ++ [z], F ++ F5, ⟨⟨fun a o ha no => ?_, fun a j ha => ?_⟩, fun a ha => ?_⟩, l5.upd (fun _ z => nomatch z), fun a ha => ?_, ?_, upd_same, ?_⟩
        · rw [upd_ne (ne_of_none ha hD)]
          exact (e2.trans e25).keep a o ha no
        · rw [upd_ne (ne_of_none ha hD)]
          exact (e2.trans e25).pz a j ha
        · by_cases z : a = D
          · rw [z, upd_same]; exact fun z => nomatch z
          · rw [upd_ne z]; exact (e2.trans e25).dom a ha
        · rcases (memb a).mp ha with ha | ha
          · exact hF a ha
          · exact e2.free (new5 a ha)
        · obtain ⟨n1, n2⟩ := List.nodup_cons.mp nd
          refine List.nodup_cons.mpr ⟨fun z => (List.mem_append.mp z).elim n1 DnF5, List.nodup_append.mpr ⟨n2, nd5, fun a ha c hc z => ?_⟩⟩
          rw [← z] at hc
          exact dis a hc (List.mem_cons_of_mem _ ha)
        · have q := tl'.app (.cons tr' .nil)
          simp only [List.append_nil] at q
          have et : ((List.range (i + 1)).map fun j => full lv (h j)) = ((List.range i).map fun j => full lv (h j)) ++ [full lv (h i)] := by rw [List.range_succ, List.map_append]; rfl
          rw [et]
          exact q
    · have en : i = n := by omega
      subst en
      refine .inl ⟨ok.stop _ _ S2.gh', ?_⟩
      have ul : ((List.range i).map f).length = us.length := by rw [tl.length]; simp
      have ef : full (lv + 1) (.dct ((List.range i).map fun j => (f j, h j))) = .node (.dct ((List.range i).map f)) ((List.range i).map fun j => full lv (h j)) := by
        show Tree.node (.dct (((List.range i).map fun j => (f j, h j)).map (·.1))) (((List.range i).map fun j => (f j, h j)).map fun p => full lv p.2) = _
        rw [List.map_map, List.map_map]
        rfl
      refine k (.ref D) _ (D :: F) H2 rfl (e.trans e2) l2 (fun a ha => e.free (hF a ha)) nd ?_
      rw [ef]
      exact .node hacc ⟨ul, rfl⟩ tl
end Sh

/-! Sh29: ranges with a step, list(d), d[k] of data, lists of own lists, d.clear(). -/
namespace Sh
open PySem PySem.Spec PySem.Calls PyProof.Rows L2
section
variable {G : Gx} {p : Bool} {b b' b1 b2 : Nat} {te : TE} {ta : TA} {ds : List Sd}
theorem itc_ok {K : PySem.W.Frag} {lo c : Int} {n : Nat} : JOk K (Itc lo c n) [] n (fun i => .int (lo + (i : Int) * c)) :=
  ⟨fun i M H _ h => h, fun i M H _ h x H2 ⟨e1, e2⟩ => by subst e1 e2; exact ⟨Ext.refl _, fun _ l => l, .int _⟩, fun M H _ => Nat.le_refl n⟩
theorem ei_r3 {i j c : Int} {n : Nat} (h : EaD G p b b' ta ds [.int i, .int j, .int c]) (hr : RgC i j c n) : EvI G b b' (iRng3 ta) ds n (fun k => .int (i + (k : Int) * c)) := fun gs M H σ S R k =>
  h gs M H σ S _ fun vs es H' r e l rp => by
    subst r
    cases rp with
    | cons r1 r2 => cases r2 with | cons r2 r3 => cases r3 with | cons r3 r4 => cases r4; cases r3; cases r2; cases r1; exact ⟨i, j, c, n, rfl, hr, k _ [] H' e l (fun q z => by cases z) itc_ok⟩
/-- a range whose length was drawn -/
def iR (n : Int) : TI := fun _ H R => R (Itr 0 n.toNat) H
theorem ei_R {n : Int} : EvI G b b (iR n) ds n.toNat (fun i => .int (i : Int)) := fun gs M H σ S R k => k _ [] H (Ext.refl H) S.lim (fun q z => by cases z) (by
  have q := itr_ok (K := G.K) (lo := 0) (n := n.toNat)
  simp only [Int.zero_add] at q
  exact q)
theorem eos_r1S {g : TG} {tt : TT} {vs : List Nat} {R : List D → Prop} {Rn : Int → Prop} (h : EvA G p b b1 ta ds (fun es => ∃ n : Int, es = [.int n] ∧ Rn n)) (hn : ∀ n, Rn n → -(2 ^ 62) ≤ n ∧ n < 2 ^ 62) (k : ∀ n, Rn n → EvO G b1 b' (tLc (iR n) g tt te vs) ds R) : EvO G b b' (tLc (iRng1 ta) g tt te vs) ds R := fun gs M H σ S Q q =>
  h gs M H σ S _ fun us es H1 ⟨n, e, r⟩ e1 l1 rp => by
    subst e
    cases rp with
    | cons r1 r2 =>
      cases r2; cases r1
      refine ⟨n, rfl, (hn n r).1, (hn n r).2, ?_⟩
      exact k n r gs M H1 σ (S.step e1 l1) Q fun a ws xs H' rx e2 l2 hn2 ha rr => q a ws xs H' rx (e1.trans e2) l2 (e1.free hn2) ha rr
end
/-! ### list(d), d[k] of data -/
theorem g_listD {X : Cx} (hc : X.calm = true) : CallR X (.type "list") rListD := call_list_dK hc
theorem keys_D {K : PySem.W.Frag} {H : Hp} : ∀ {kvs : List (Key × V)}, RpA K H (kvs.map fun kv => kV kv.1) (kvs.map fun kv => kD kv.1)
  | [] => .nil
  | (.inl i, _) :: r => .cons (.int i) keys_D
  | (.inr s, _) :: r => .cons (.str s) keys_D
theorem c_listD {K : PySem.W.Frag} {kds : List (Key × D)} : ClD K rListD [.dct kds] (.lst (kds.map fun kv => kD kv.1)) := fun N b H vs Q hN l r k => by
  cases r with
  | cons r1 r =>
    cases r
    cases r1 with
    | @dct a kvs _ ha rk =>
      refine ⟨_, kvs, rfl, (msk_of ha).2, fun q hq => ?_⟩
      have e : (kds.map fun kv => kD kv.1) = kvs.map fun kv => kD kv.1 := by
        have q := rk.keys
        have e1 : (kds.map fun kv => kD kv.1) = (kds.map (·.1)).map kD := by rw [List.map_map]; rfl
        have e2 : (kvs.map fun kv => kD kv.1) = (kvs.map (·.1)).map kD := by rw [List.map_map]; rfl
        rw [e1, e2, q]
      refine k _ _ _ rfl (Ext.new hq) (l.upd fun _ z => nomatch z) ?_
      rw [e]
      exact .lst (by rw [msk_no fun z => hN q z hq]; exact upd_same) keys_D
theorem RpK.get {K : PySem.W.Frag} {H : Hp} {k : Key} {d : D} : ∀ {kvs : List (Key × V)} {kds : List (Key × D)}, RpK K H kvs kds → (kds.find? fun kv => decide (kv.1 = k)).map (·.2) = some d → ∃ v, valV kvs k = some v ∧ Rp K H v d
  | _, _, .nil, h => by simp at h
  | _, _, .cons (k := k0) p q, h => by
    rw [List.find?_cons] at h
    by_cases e : k0 = k
    · rw [decide_eq_true (show (k0, _).1 = k from e)] at h
      cases h
      exact ⟨_, valV_pos e, p⟩
    · rw [decide_eq_false (show ¬ (k0, _).1 = k from e)] at h
      obtain ⟨v, h1, h2⟩ := RpK.get q h
      exact ⟨v, by rw [valV_neg (show ¬ (k0, _).1 = k from e)]; exact h1, h2⟩
/-- d[k] -/
theorem o_ixD {K : PySem.W.Frag} {kds : List (Key × D)} {k : Key} {d : D} (h : (kds.find? fun kv => decide (kv.1 = k)).map (·.2) = some d) : Op2D K (rIxA K) (.dct kds) (kD k) d := fun N b H v u Q hN l r1 r2 q => by
  have eu := kD_v r2
  subst eu
  cases r1 with
  | dct ha rk =>
    obtain ⟨w, h1, h2⟩ := rk.get h
    exact .inr (.inr (.inr ⟨_, w, rfl, by rw [← h1]; exact DGet.k (msk_of ha).2, q _ _ H rfl (Ext.refl H) l h2⟩))
/-! ### a list of new trees -/
theorem ew_lc {G : Gx} {lv b b1 : Nat} {wi : TI} {g : TG} {te : TE} {vs : List Nat} {ds : List Sd} {n : Nat} {it : Nat → D} (h : Nat → D) (hi : EvI G b b1 wi ds n it) (hn : n ≤ 16000)
    (hs : ∀ i, i < n → ∃ ds'', TgR G.K vs g (it i) (wipeD ds vs) ds'' ∧ ∀ b0, EvW G lv b0 b0 te ds'' (fun d => d = h i)) :
    EvW G (lv + 1) b b1 (tLc wi g tYes te vs) ds (fun d => d = .lst ((List.range n).map h)) := fun gs M H σ S Q k =>
  hi gs M H σ S _ fun J gs' H1 e l hg ok => fun D hD => by
    have S1 : Stt G.K G.H0 G.M0 (gs' ++ gs) M b1 H1 σ ds := (S.step e l).ghosts hg
    refine ⟨fun i m H => m = n - i ∧ i ≤ n ∧ ∃ us F, Ext H1 H ∧ Lim b1 H ∧ (∀ a ∈ D :: F, H1 a = none) ∧ (D :: F).Nodup ∧ H D = some (.lst us) ∧ TrL G.K (fun a => M a ∨ a ∈ D :: F) H us ((List.range i).map fun j => full lv (h j)) F,
      ⟨n, by omega, Nat.zero_le _, [], [], Ext.new hD, S1.lim.upd (fun _ z => nomatch z), (fun a m => by rw [List.mem_singleton.mp m]; exact hD), List.nodup_cons.mpr ⟨fun z => (nomatch z), List.nodup_nil⟩, upd_same, .nil⟩, ?_⟩
    rintro i m H2 ⟨rfl, hin, us, F, e2, l2, hF, nd, hacc, tl⟩
    have hlv : ∀ a ∈ D :: F, H2 a ≠ none := fun a ha => by
      rcases List.mem_cons.mp ha with rfl | ha
      · rw [hacc]; exact fun z => nomatch z
      · exact tl.liv a ha
    have S2 : Stt G.K G.H0 G.M0 (gs' ++ gs) (fun a => M a ∨ a ∈ D :: F) b1 H2 σ ds := S1.growP (P := fun a => a ∈ D :: F) hF e2 l2 hlv
    by_cases hlt : i < n
    · refine .inr ⟨ok.go i _ H2 S2.gh' hlt, fun H => ∃ us F, Ext H1 H ∧ Lim b1 H ∧ (∀ a ∈ D :: F, H1 a = none) ∧ (D :: F).Nodup ∧ H D = some (.lst us) ∧ TrL G.K (fun a => M a ∨ a ∈ D :: F) H us ((List.range (i + 1)).map fun j => full lv (h j)) F, fun H' z => ⟨n - (i + 1), by omega, rfl, hlt, z⟩, fun x H3 y => ?_⟩
      obtain ⟨x1, x2, x3⟩ := ok.yld i _ H2 S2.gh' hlt x H3 y
      obtain ⟨ds'', t1, q2⟩ := hs i hlt
      have S3 := (S2.step x1 (x2 _ l2)).wipe vs
      refine t1 _ _ _ _ _ H3 _ x S3 x3 _ fun σ4 S4 ew => ⟨?_, ?_⟩
      · rw [ew]
        exact wipe_sub vs vs fun _ h => h
      · show te σ4 H3 _
        refine q2 b1 _ _ H3 σ4 S4 _ fun z d5 F5 H5 r5 e5 l5 hF5 nd5 tr5 => ?_
        subst r5
        have e25 := x1.trans e5
        have hacc5 : H5 D = some (.lst us) := e25.keep _ _ hacc fun _ z => nomatch z
        have ul : us.length = i := by rw [tl.length]; simp
        refine ⟨us, hacc5, by rw [ul]; exact Nat.lt_of_le_of_lt hin (Nat.lt_of_le_of_lt hn (by decide)), ?_⟩
        have new5 : ∀ a ∈ F5, H2 a = none := fun a ha => x1.free (hF5 a ha)
        have dis : ∀ a ∈ F5, a ∉ D :: F := fun a ha z => hlv a z (new5 a ha)
        have memb : ∀ a, a ∈ D :: (F ++ F5) ↔ a ∈ D :: F ∨ a ∈ F5 := fun a => by simp [or_assoc]
        have hmask : (fun c => (M c ∨ c ∈ D :: F) ∨ c ∈ F5) = fun a => M a ∨ a ∈ D :: (F ++ F5) := by
          funext a
          apply propext
          rw [memb a, or_assoc]
        have kpu : ∀ o, msk (fun a => M a ∨ a ∈ D :: (F ++ F5)) (upd H5 D o) = msk (fun a => M a ∨ a ∈ D :: (F ++ F5)) H5 := fun o => msk_upd (.inr List.mem_cons_self)
        have DnF : D ∉ F := (List.nodup_cons.mp nd).1
        have DnF5 : D ∉ F5 := fun z => dis D z List.mem_cons_self
        have k1 : Kp (msk (fun a => M a ∨ a ∈ D :: F) H2) (msk (fun a => M a ∨ a ∈ D :: (F ++ F5)) H5) := by
          rw [← hmask]
          exact kp_grow (P := fun a => a ∈ F5) new5 e25
        have tl' : TrL G.K (fun a => M a ∨ a ∈ D :: (F ++ F5)) (upd H5 D (.lst (us ++ [z]))) us ((List.range i).map fun j => full lv (h j)) F := tl.chg (by rw [kpu]; exact k1) fun a ha o ho no => by
          rw [upd_ne fun z => DnF (by rw [← z]; exact ha)]
          exact e25.keep a o ho no
        have tr' : Tr G.K (fun a => M a ∨ a ∈ D :: (F ++ F5)) (upd H5 D (.lst (us ++ [z]))) z (full lv (h i)) F5 := tr5.chg (by rw [kpu, hmask]; exact Kp.refl _) fun a ha o ho no => by
          rw [upd_ne fun z => DnF5 (by rw [← z]; exact ha)]
          exact ho
        refine ⟨us ++ [z], F ++ F5, ⟨⟨fun a o ha no => ?_, fun a j ha => ?_⟩, fun a ha => ?_⟩, l5.upd (fun _ z => nomatch z), fun a ha => ?_, ?_, upd_same, ?_⟩
        · rw [upd_ne (ne_of_none ha hD)]
          exact (e2.trans e25).keep a o ha no
        · rw [upd_ne (ne_of_none ha hD)]
          exact (e2.trans e25).pz a j ha
        · by_cases z : a = D
          · rw [z, upd_same]; exact fun z => nomatch z
          · rw [upd_ne z]; exact (e2.trans e25).dom a ha
        · rcases (memb a).mp ha with ha | ha
          · exact hF a ha
          · exact e2.free (new5 a ha)
        · obtain ⟨n1, n2⟩ := List.nodup_cons.mp nd
          refine List.nodup_cons.mpr ⟨fun z => (List.mem_append.mp z).elim n1 DnF5, List.nodup_append.mpr ⟨n2, nd5, fun a ha c hc z => ?_⟩⟩
          rw [← z] at hc
          exact dis a hc (List.mem_cons_of_mem _ ha)
        · have q := tl'.app (.cons tr' .nil)
          simp only [List.append_nil] at q
          have et : ((List.range (i + 1)).map fun j => full lv (h j)) = ((List.range i).map fun j => full lv (h j)) ++ [full lv (h i)] := by rw [List.range_succ, List.map_append]; rfl
          rw [et]
          exact q
    · have en : i = n := by omega
      subst en
      refine .inl ⟨ok.stop _ _ S2.gh', ?_⟩
      have ef : full (lv + 1) (.lst ((List.range i).map h)) = .node .lst ((List.range i).map fun j => full lv (h j)) := by
        show Sh.Tree.node .lst (((List.range i).map h).map (full lv)) = _
        rw [List.map_map]
        rfl
      refine k (.ref D) _ (D :: F) H2 rfl (e.trans e2) l2 (fun a ha => e.free (hF a ha)) nd ?_
      rw [ef]
      exact .node hacc rfl tl
section
variable {G : Gx} {p : Bool} {lv b b' b1 b2 : Nat} {te ta tb ti tv : TE} {tA : TA} {ds : List Sd} {R : D → Prop} {E : DE} {i j : Nat} {t t0 t1 : Tree} {F : List Addr} {d : D} {put : Tree → Tree} {ts : List Tree} {m : Int} {ks : List Key} {key : Key}
/-- d.clear() -/
theorem w_clearT (hds : ds[i]? = some (.tre t F)) (h : EvF G b b1 te ds i t (.node (.dct ks) ts) put) (k : ∀ F', E.nx (ds.set i (.tre (put (.node (.dct []) [])) F')) b1) :
    Wt G b (tDrop (tBM0 G.K "dict" rDClear te)) ds E := fun gs M H σ S Dn w => by
  refine h gs M H σ F S hds _ fun v H1 r F1 F0 F2 e l hr hF tr cl => ?_
  cases tr with
  | @node a o n vs _ F0 ha ho q =>
    obtain ⟨hlk, ho'⟩ := ho
    subst ho'
    have S1 := S.step e l
    refine ⟨.inr (.inr (.inl ⟨rfl, .inl ⟨_, ha⟩⟩)), a, _, rfl, rfl, ha, ?_⟩
    obtain ⟨ma, na⟩ := tre_at S1 hds hF
    have kp : Kp (msk M H1) (msk M (upd H1 a (.dK []))) := by rw [msk_upd ma]; exact Kp.refl _
    have kept : ∀ c, c ∈ F1 ∨ c ∈ F2 ∨ c ∈ F0 → ∀ z, H1 c = some z → (∀ φ, z ≠ .ext φ) → (upd H1 a (.dK [])) c = some z := fun c hc z hz n => by rw [upd_ne (na c hc)]; exact hz
    have tr' := cl M _ (.node (.dct []) []) (a :: []) kp (fun c hc z hz n => kept c (hc.elim .inl fun z => .inr (.inl z)) z hz n) (.node (vs := []) upd_same ⟨rfl, rfl⟩ .nil)
    exact w.nx M b1 _ σ _ (S1.mutT (n := .lst) hds hr hF (fun _ z => nomatch z) (List.nil_sublist _) tr') (k _)
end
theorem g_clear {X : Cx} {K : PySem.W.Frag} (hK : X.K = K) {o : Expr} {to : TE} {apos cpos : Pos} (ho : PE X o to) (hbase : attributeBase o "clear" X.env (eval o X.env) = eval o X.env := by rfl) (hline : (apos.endLine == cpos.line) = true := by rfl) : PE X (.Call (.Attribute o "clear" apos) [] [] cpos) (tBM0 K "dict" rDClear to) := by
  subst hK
  exact pe_dclear ho hbase hline
end Sh
namespace Sh
open PySem PySem.Spec PySem.Calls PyProof.Rows L2
/-! ### trees whose leaves are no objects -/
mutual
def Tree.flat : Tree → Bool
  | .leaf d => flatD d
  | .node _ ts => Tree.flatL ts
def Tree.flatL : List Tree → Bool
  | [] => true
  | t :: ts => t.flat && Tree.flatL ts
end
section
variable {K : PySem.W.Frag} {M M' : Addr → Prop} {H : Hp}
mutual
theorem Tr.anyM : ∀ {v : V} {t : Tree} {F : List Addr}, Tr K M H v t F → t.flat = true → Tr K M' H v t F
  | _, _, _, .leaf r, h => .leaf (Rp.flat r (by rw [Tree.flat] at h; exact h))
  | _, _, _, .node ha ho q, h => .node ha ho (TrL.anyM q (by rw [Tree.flat] at h; exact h))
theorem TrL.anyM : ∀ {vs : List V} {ts : List Tree} {F : List Addr}, TrL K M H vs ts F → Tree.flatL ts = true → TrL K M' H vs ts F
  | _, _, _, .nil, _ => .nil
  | _, _, _, .cons p q, h => by
    rw [Tree.flatL, Bool.and_eq_true] at h
    exact .cons (Tr.anyM p h.1) (TrL.anyM q h.2)
end
end
theorem flatL_map {α : Type} (f : α → Tree) (h : ∀ x, (f x).flat = true) : ∀ xs : List α, Tree.flatL (xs.map f) = true
  | [] => by simp [Tree.flatL]
  | x :: xs => by rw [List.map_cons, Tree.flatL, h x, flatL_map f h xs]; rfl
theorem flatL_leaves : ∀ {ds : List D}, (∀ d ∈ ds, flatD d = true) → Tree.flatL (ds.map .leaf) = true
  | [], _ => by simp [Tree.flatL]
  | d :: ds, h => by rw [List.map_cons, Tree.flatL, Tree.flat, h d List.mem_cons_self, flatL_leaves fun x hx => h x (List.mem_cons_of_mem _ hx)]; rfl
section
variable {G : Gx} {lv b b' b1 b2 n m : Nat} {t tk : TA} {ds : List Sd} {F : Fd} {Ex : L2.St → XK} {es fs : List D} {z : D}
/-- a call whose answer is a new tree without other objects; what is handed in may be our own -/
theorem ew_calKF (ha : EaD G false b b1 t ds es) (hk : EaD G false b1 b2 tk ds fs) (h : Cal F (es ++ fs) z) (hn : es.length = n) (hm : fs.length = m) (hf : (full lv z).flat = true) (ho : F.own = true := by rfl) (ho2 : F.own2 = lv + 2 := by rfl) :
    EvW G lv b b2 (tCl n m (SpD G.K F) (fun vs zs => vs ++ zs) Ex t tk) ds (fun d => d = z) := fun gs M H σ S Q k =>
  ha gs M H σ S _ fun vs es' H1 r1 e1 l1 rp1 => hk gs M H1 σ (S.step e1 l1) _ fun zs fs' H2 r2 e2 l2 rp2 => by
    subst r1 r2
    have S2 := (S.step e1 l1).step e2 l2
    refine ⟨by rw [rp1.length, hn], by rw [rp2.length, hm], es' ++ fs', G.M0, b2, fun a h => S2.liv a (S2.m0 a h), l2.mono (by rw [h.cost]; omega), (rp1.mono (msk_mono e2.toKp)).append rp2, h.n, h.dom, fun v d H3 rd e3 l3 rp3 o => ?_, fun C dd fsV x H3 rx => absurd rx (h.exn C x)⟩
    have o := o ho
    rw [ho2] at o
    obtain ⟨Fn, q1, q2, q3⟩ := o
    have ed := h.res d rd
    subst ed
    exact k v d Fn H3 rfl ((e1.trans e2).trans e3) l3 (fun a m => (e1.trans e2).free (q1 a m)) q2 (q3.anyM hf)
end
end Sh

/-! Sh30: k in d, len(d), d.pop(k). -/
namespace Sh
open PySem PySem.Spec PySem.Calls PyProof.Rows L2
section
variable {K : PySem.W.Frag} {kds : List (Key × D)} {k : Key}
theorem RpK.has {H : Hp} {k : Key} : ∀ {kvs : List (Key × V)} {kds : List (Key × D)}, RpK K H kvs kds → (valV kvs k).isSome = kds.any fun kv => decide (kv.1 = k)
  | _, _, .nil => rfl
  | _, _, .cons (k := k0) p q => by
    rw [List.any_cons]
    by_cases e : k0 = k
    · rw [valV_pos (show (k0, _).1 = k from e), decide_eq_true (show (k0, _).1 = k from e)]; rfl
    · rw [valV_neg (show ¬ (k0, _).1 = k from e), decide_eq_false (show ¬ (k0, _).1 = k from e), RpK.has q]; rfl
theorem o_inK : Op2D K (rInA K) (kD k) (.dct kds) (.bl (kds.any fun kv => decide (kv.1 = k))) := fun N b H v u Q hN l r1 r2 q => by
  have eu := kD_v r1
  subst eu
  cases r2 with
  | dct ha rk => exact .inr (.inr (.inr ⟨_, _, rfl, DGet.k (msk_of ha).2, q _ _ H rfl (Ext.refl H) l (by rw [rk.has]; exact .bl _)⟩))
theorem o_notinK : Op2D K (rNotInA K) (kD k) (.dct kds) (.bl (!kds.any fun kv => decide (kv.1 = k))) := fun N b H v u Q hN l r1 r2 q => by
  have eu := kD_v r1
  subst eu
  cases r2 with
  | dct ha rk => exact .inr (.inr (.inr ⟨_, _, rfl, DGet.k (msk_of ha).2, q _ _ H rfl (Ext.refl H) l (by rw [rk.has]; exact .bl _)⟩))
/-- len of a dict -/
def rLenD : List V → Hp → VK → Prop := fun xs H Q => ∃ a kvs, xs = [V.ref a] ∧ H a = some (.dK kvs) ∧ Q (.int (kvs.length : Nat)) H
theorem g_lenD {X : Cx} : CallR X (.builtin "len") rLenD := call_lenD
theorem c_lenD : ClD K rLenD [.dct kds] (.int (kds.length : Int)) := fun N b H vs Q hN l r k => by
  cases r with
  | cons r1 r =>
    cases r
    cases r1 with
    | dct ha rk => exact ⟨_, _, rfl, (msk_of ha).2, k _ _ H rfl (Ext.refl H) l (by rw [rk.length]; exact .int _)⟩
end
/-! ### d.pop(k) -/
section
variable {K : PySem.W.Frag} {M : Addr → Prop} {H : Hp}
theorem TrL.erase : ∀ {vs : List V} {ts : List Tree} {F : List Addr} (j : Nat), TrL K M H vs ts F → ∃ F', F'.Sublist F ∧ TrL K M H (vs.eraseIdx j) (ts.eraseIdx j) F'
  | _, _, _, _, .nil => ⟨[], List.Sublist.refl _, .nil⟩
  | _, _, _, 0, .cons (F1 := Fa) (F2 := Fb) p q => ⟨Fb, List.sublist_append_right _ _, q⟩
  | _, _, _, j + 1, .cons (F1 := Fa) (F2 := Fb) p q => by
    obtain ⟨F', h1, h2⟩ := TrL.erase j q
    exact ⟨Fa ++ F', (List.Sublist.refl Fa).append h1, .cons p h2⟩
theorem drop_ne : ∀ {ks : List Key} {vs : List V} {k : Key}, k ∉ ks → dropK (ks.zip vs) k = ks.zip vs
  | [], _, _, _ => by simp [dropK]
  | x :: ks, [], _, _ => by simp [dropK]
  | x :: ks, v :: vs, k, h => by
    have e : ¬ x = k := fun z => h (by rw [z]; exact List.mem_cons_self)
    unfold dropK
    rw [List.zip_cons_cons, List.filter_cons_of_pos (by simpa using e)]
    exact congrArg _ (drop_ne fun z => h (List.mem_cons_of_mem _ z))
theorem dropK_zip : ∀ {ks : List Key} {vs : List V} {j : Nat} {k : Key}, ks.length = vs.length → ks.Nodup → ks[j]? = some k → dropK (ks.zip vs) k = (ks.eraseIdx j).zip (vs.eraseIdx j)
  | [], _, j, k, _, _, h => by simp at h
  | x :: ks, [], j, k, hl, _, _ => by simp at hl
  | x :: ks, v :: vs, 0, k, hl, nd, h => by
    simp at h
    subst h
    obtain ⟨h1, h2⟩ := List.nodup_cons.mp nd
    unfold dropK
    rw [List.zip_cons_cons, List.filter_cons_of_neg (by simp)]
    exact drop_ne h1
  | x :: ks, v :: vs, j + 1, k, hl, nd, h => by
    obtain ⟨h1, h2⟩ := List.nodup_cons.mp nd
    have hj : ks[j]? = some k := by simpa using h
    have e : ¬ x = k := fun z => h1 (by rw [z]; exact List.mem_of_getElem? hj)
    unfold dropK
    rw [List.zip_cons_cons, List.filter_cons_of_pos (by simpa using e)]
    exact congrArg _ (dropK_zip (by simpa using hl) h2 hj)
theorem erase_len {α β : Type} : ∀ {xs : List α} {ys : List β} (j : Nat), xs.length = ys.length → (xs.eraseIdx j).length = (ys.eraseIdx j).length
  | [], [], _, _ => rfl
  | [], _ :: _, _, h => by simp at h
  | _ :: _, [], _, h => by simp at h
  | x :: xs, y :: ys, 0, h => by simpa using h
  | x :: xs, y :: ys, j + 1, h => by
    simp only [List.eraseIdx_cons_succ, List.length_cons]
    rw [erase_len j (by simpa using h)]
end
section
variable {G : Gx} {p : Bool} {lv b b' b1 b2 : Nat} {te ta tb ti tv : TE} {tA : TA} {ds : List Sd} {R : D → Prop} {E : DE} {i j : Nat} {t t0 t1 : Tree} {F : List Addr} {d : D} {put : Tree → Tree} {ts : List Tree} {m : Int} {ks : List Key} {key : Key}
/-- d.pop(k), a statement -/
theorem w_popT (hds : ds[i]? = some (.tre t F)) (h : EvF G b b1 te ds i t (.node (.dct ks) ts) put) (hi : EvD G p b1 b2 ti ds (kD key)) (nd : ks.Nodup) (hj : ks[j]? = some key) (k : ∀ F', E.nx (ds.set i (.tre (put (.node (.dct (ks.eraseIdx j)) (ts.eraseIdx j))) F')) b2) :
    Wt G b (tDrop (tDPop1 te ti)) ds E := fun gs M H σ S Dn w => by
  refine h gs M H σ F S hds _ fun v H1 r F1 F0 F2 e l hr hF tr cl => ?_
  cases tr with
  | @node a o n vs _ F0 ha ho q =>
    obtain ⟨hlk, ho'⟩ := ho
    subst ho'
    refine ⟨a, rfl, .inl ⟨_, .inl ha⟩, hi gs M H1 σ (S.step e l) _ fun u d2 H2 rd e2 l2 rp => ?_⟩
    subst rd
    have eu := kD_v rp
    subst eu
    have S2 := (S.step e l).step e2 l2
    have ha2 := e2.keep _ _ ha fun _ z => nomatch z
    have hv : valV (ks.zip vs) key = vs[j]? := valV_zip hlk nd hj
    have hjv : j < vs.length := by
      have := (List.getElem?_eq_some_iff.mp hj).1
      omega
    rw [List.getElem?_eq_getElem hjv] at hv
    refine ⟨_, key, _, ha2, rfl, hv, ?_⟩
    rw [dropK_zip hlk nd hj]
    obtain ⟨ma, na⟩ := tre_at S2 hds hF
    obtain ⟨F0', hs, q0⟩ := q.erase j
    generalize ho' : HO.dK ((ks.eraseIdx j).zip (vs.eraseIdx j)) = o'
    have hx : ∀ φ, o' ≠ .ext φ := fun φ z => by rw [← ho'] at z; cases z
    have kp : Kp (msk M H1) (msk M (upd H2 a o')) := by rw [msk_upd ma]; exact msk_mono e2.toKp
    have kept : ∀ c, c ∈ F1 ∨ c ∈ F2 ∨ c ∈ F0 → ∀ z, H1 c = some z → (∀ φ, z ≠ .ext φ) → (upd H2 a o') c = some z := fun c hc z hz n => by rw [upd_ne (na c hc)]; exact e2.keep c z hz n
    have q2 := q0.chg kp fun c hc z hz n => kept c (.inr (.inr (hs.subset hc))) z hz n
    have tr' := cl M _ (.node (.dct (ks.eraseIdx j)) (ts.eraseIdx j)) (a :: F0') kp (fun c hc z hz n => kept c (hc.elim .inl fun z => .inr (.inl z)) z hz n) (.node upd_same ⟨erase_len j hlk, ho'.symm⟩ q2)
    exact w.nx M b2 _ σ _ (S2.mutT (n := .lst) hds hr hF hx hs tr') (k _)
end
theorem g_popD {X : Cx} {o e : Expr} {to ty : TE} {apos cpos : Pos} (ho : PE X o to) (he : PE X e ty) (m : M1 X o "pop" apos e cpos := by exact ⟨rfl, rfl, rfl, rfl⟩) : PE X (.Call (.Attribute o "pop" apos) [e] [] cpos) (tDPop1 to ty) := pe_dpop1 ho he m
end Sh

set_option maxHeartbeats 4000000
namespace Lw
open PySem PySem.Spec PyProof.Rows L2 Sh
local macro_rules | `(tactic| walk_at "ev") => `(tactic| first
  | exact ev_var rfl
  | with_reducible exact ev_int
  | with_reducible exact ev_bl
  | with_reducible exact ev_non
  | with_reducible exact ev_str
  | with_reducible exact ev_dnew
  | ((with_reducible apply ev_op) <;> walk_at "ev")
  | ((with_reducible apply ev_un) <;> walk_at "ev")
  | ((with_reducible apply ev_lst) <;> first | walk_at "ev" | exact Nat.le_of_ble_eq_true rfl | skip)
  | ((with_reducible apply ev_tup) <;> first | walk_at "ev" | exact Nat.le_of_ble_eq_true rfl | skip)
  | ((with_reducible apply ev_cb) <;> walk_at "ev")
  | ((with_reducible apply ev_cal) <;> first | walk_at "cal" | walk_at "ev" | exact rfl)
  | ((with_reducible apply ev_calK) <;> first | walk_at "cal" | walk_at "ev" | exact rfl)
  | ((with_reducible apply ev_calD) <;> first | walk_at "cal" | walk_at "ev" | exact rfl | assumption)
  | ((with_reducible apply ev_ktup); assumption)
  | ((with_reducible apply (ev_chain (p := false) (w := .non))) <;> first | walk_at "ev" | (intro _; walk_at "ev"))
  | ((with_reducible apply ev_notV) <;> walk_at "ev")
  | ((with_reducible apply ev_slice) <;> walk_at "ev")
  | with_reducible exact ep_none
  | ((with_reducible apply ev_rev) <;> walk_at "ev")
  | ((with_reducible apply ep_some) <;> walk_at "ev")
  | with_reducible exact sl_L
  | with_reducible exact sl_T
  | with_reducible exact ev_ty
  | with_reducible exact ev_ref
  | with_reducible exact ea_nil
  | ((with_reducible apply ea_cons) <;> walk_at "ev")
  | ((with_reducible apply et_tst) <;> walk_at "ev")
  | ((with_reducible apply et_not) <;> walk_at "ev")
  | ((with_reducible apply et_tru) <;> first | walk_at "ev" | rfl)
  | ((with_reducible apply et_or) <;> first | walk_at "ev" | (intro _; walk_at "ev"))
  | ((with_reducible apply et_and) <;> first | walk_at "ev" | (intro _; walk_at "ev"))
  | ((with_reducible apply ev_andV) <;> first | walk_at "ev" | (intro _; walk_at "ev"))
  | ((with_reducible apply ev_orV) <;> first | walk_at "ev" | (intro _; walk_at "ev"))
  | walk_at "op"
  | exact ev_own rfl
  | exact ev_par rfl
  | ((with_reducible apply EvD.flatT) <;> first | walk_at "ev" | rfl))
local macro_rules | `(tactic| walk_at "op") => `(tactic| first
  | walk_at "op1"
  | ((with_reducible apply Op2D.as) <;> first | walk_at "op1" | rfl)
  | ((with_reducible apply ClD.as) <;> first | walk_at "op1" | rfl)
  | with_reducible apply Op2.id
  | with_reducible apply ClA.id)
local macro_rules | `(tactic| walk_at "op1") => `(tactic| first
  | with_reducible exact o_add | with_reducible exact o_sub | with_reducible exact o_lt | with_reducible exact o_le | with_reducible exact o_gt | with_reducible exact o_ge | with_reducible exact o_eqI | with_reducible exact o_neI | with_reducible exact u_neg
  | ((with_reducible apply o_mod); first | decide | omega | skip)
  | ((with_reducible apply o_mul); walk_at "mul")
  | ((with_reducible apply o_div); walk_at "div")
  | ((with_reducible apply o_pow); walk_at "pow")
  | with_reducible exact c_max | with_reducible exact c_min | with_reducible exact c_lenL | with_reducible exact c_lenT | with_reducible exact c_lenR
  | with_reducible exact o_isN1 | with_reducible exact o_notN1
  | ((with_reducible apply o_isN); first | exact (fun z => nomatch z) | assumption | skip)
  | ((with_reducible apply o_notN); first | exact (fun z => nomatch z) | assumption | skip)
  | with_reducible exact o_isB | with_reducible exact o_notB
  | with_reducible exact o_inI | with_reducible exact o_notinI | with_reducible exact o_inIT
  | with_reducible refine c_isiE (by assumption) (by first | exact ClsC.own _ | exact ClsC.ty _) (by assumption)
  | ((with_reducible apply c_isi) <;> first | walk_at "kb" | rfl)
  | with_reducible exact c_intI | with_reducible exact c_intB
  | ((with_reducible apply c_listof); first | rfl | skip)
  | ((with_reducible apply c_tupof); first | rfl | skip)
  | ((with_reducible apply c_sumL); first | rfl | skip)
  | ((with_reducible apply c_sumT); first | rfl | skip)
  | ((with_reducible apply c_all); first | rfl | skip)
  | ((with_reducible apply o_catT); first | exact Nat.le_of_ble_eq_true rfl | skip)
  | ((with_reducible apply o_catL); first | exact Nat.le_of_ble_eq_true rfl | skip)
  | ((with_reducible apply c_divm) <;> first | decide | omega | skip)
  | ((with_reducible apply o_ixL); first | rfl | assumption | skip)
  | ((with_reducible apply o_ixT); first | rfl | assumption | skip)
  | ((with_reducible apply o_ixR); first | assumption | skip))
local macro_rules | `(tactic| walk_at "mul") => `(tactic| first | assumption | exact cmul_of 70 70 (by decide) (by decide) | exact cmul_of 400 400 (by omega) (by omega) | skip)
local macro_rules | `(tactic| walk_at "div") => `(tactic| skip)
local macro_rules | `(tactic| walk_at "pow") => `(tactic| first | exact cpow_small 5 (by decide) (by decide) (by decide) | skip)
local macro_rules | `(tactic| walk_at "b") => `(tactic| (first | exact Nat.le_refl _ | exact Nat.le_add_left _ _ | omega))
local macro_rules | `(tactic| walk_at "tg") => `(tactic| first
  | exact tg_name
  | with_reducible exact tgs_nil
  | (apply tgs_cons <;> walk_at "tg")
  | (apply tg_tup (hl := rfl) <;> walk_at "tg")
  | (apply tg_lst (hl := rfl) <;> walk_at "tg"))
local macro_rules | `(tactic| walk_at "cal") => `(tactic| first
  | (with_reducible exact cl_make (by omega) (by omega))
  | (with_reducible exact cl_makeI (by omega) (by omega))
  | fail "no cal")
local macro_rules | `(tactic| walk_at "kb") => `(tactic| first
  | with_reducible exact kb_NoneType_bool
  | with_reducible exact kb_NoneType_int
  | with_reducible exact kb_NoneType_str
  | with_reducible exact kb_NoneType_list
  | with_reducible exact kb_NoneType_tuple
  | with_reducible exact kb_NoneType_dict
  | with_reducible exact kb_bool_bool
  | with_reducible exact kb_bool_int
  | with_reducible exact kb_bool_str
  | with_reducible exact kb_bool_list
  | with_reducible exact kb_bool_tuple
  | with_reducible exact kb_bool_dict
  | with_reducible exact kb_int_bool
  | with_reducible exact kb_int_int
  | with_reducible exact kb_int_str
  | with_reducible exact kb_int_list
  | with_reducible exact kb_int_tuple
  | with_reducible exact kb_int_dict
  | with_reducible exact kb_str_bool
  | with_reducible exact kb_str_int
  | with_reducible exact kb_str_str
  | with_reducible exact kb_str_list
  | with_reducible exact kb_str_tuple
  | with_reducible exact kb_str_dict
  | with_reducible exact kb_list_bool
  | with_reducible exact kb_list_int
  | with_reducible exact kb_list_str
  | with_reducible exact kb_list_list
  | with_reducible exact kb_list_tuple
  | with_reducible exact kb_list_dict
  | with_reducible exact kb_tuple_bool
  | with_reducible exact kb_tuple_int
  | with_reducible exact kb_tuple_str
  | with_reducible exact kb_tuple_list
  | with_reducible exact kb_tuple_tuple
  | with_reducible exact kb_tuple_dict
  | with_reducible exact kb_dict_bool
  | with_reducible exact kb_dict_int
  | with_reducible exact kb_dict_str
  | with_reducible exact kb_dict_list
  | with_reducible exact kb_dict_tuple
  | with_reducible exact kb_dict_dict)
def top (i : Nat) : Stmt := PySem.Challenge.pw_sherdhall_k11_whole_one_number_changed.main.body.getD i (.Pass ⟨0, 0, 0, 0⟩)
abbrev s_plus : Stmt := top 7
abbrev N_plus : List Str := ["one", "other"]
theorem sc_plus : FnScope N_plus ["one", "other"] (defScope s_plus) := ⟨rfl, rfl, rfl, by decide +kernel, rfl, by decide +kernel, by decide +kernel⟩
abbrev s_minus : Stmt := top 8
abbrev N_minus : List Str := ["one", "other"]
theorem sc_minus : FnScope N_minus ["one", "other"] (defScope s_minus) := ⟨rfl, rfl, rfl, by decide +kernel, rfl, by decide +kernel, by decide +kernel⟩
abbrev s_times : Stmt := top 9
abbrev N_times : List Str := ["one", "other"]
theorem sc_times : FnScope N_times ["one", "other"] (defScope s_times) := ⟨rfl, rfl, rfl, by decide +kernel, rfl, by decide +kernel, by decide +kernel⟩
abbrev s_power : Stmt := top 10
abbrev N_power : List Str := ["one", "many", "found", "base", "odd"]
theorem sc_power : FnScope N_power ["one", "many"] (defScope s_power) := ⟨rfl, rfl, rfl, by decide +kernel, rfl, by decide +kernel, by decide +kernel⟩
abbrev s_is_whole : Stmt := top 16
abbrev N_is_whole : List Str := ["thing"]
theorem sc_is_whole : FnScope N_is_whole ["thing"] (defScope s_is_whole) := ⟨rfl, rfl, rfl, by decide +kernel, rfl, by decide +kernel, by decide +kernel⟩
abbrev s_is_number : Stmt := top 17
abbrev N_is_number : List Str := ["thing"]
theorem sc_is_number : FnScope N_is_number ["thing"] (defScope s_is_number) := ⟨rfl, rfl, rfl, by decide +kernel, rfl, by decide +kernel, by decide +kernel⟩
abbrev s_is_shape : Stmt := top 18
abbrev N_is_shape : List Str := ["thing", "groups", "size", "sums", "one"]
theorem sc_is_shape : FnScope N_is_shape ["thing"] (defScope s_is_shape) := ⟨rfl, rfl, rfl, by decide +kernel, rfl, by decide +kernel, by decide +kernel⟩
abbrev s_need_shape : Stmt := top 19
abbrev N_need_shape : List Str := ["thing"]
theorem sc_need_shape : FnScope N_need_shape ["thing"] (defScope s_need_shape) := ⟨rfl, rfl, rfl, by decide +kernel, rfl, by decide +kernel, by decide +kernel⟩
abbrev s_count : Stmt := top 20
abbrev N_count : List Str := ["shape", "groups", "size", "sums"]
theorem sc_count : FnScope N_count ["shape"] (defScope s_count) := ⟨rfl, rfl, rfl, by decide +kernel, rfl, by decide +kernel, by decide +kernel⟩
abbrev s_is_place : Stmt := top 21
abbrev N_is_place : List Str := ["thing", "shape"]
theorem sc_is_place : FnScope N_is_place ["thing", "shape"] (defScope s_is_place) := ⟨rfl, rfl, rfl, by decide +kernel, rfl, by decide +kernel, by decide +kernel⟩
abbrev s_need_places : Stmt := top 22
abbrev N_need_places : List Str := ["things", "shape", "thing"]
theorem sc_need_places : FnScope N_need_places ["things", "shape"] (defScope s_need_places) := ⟨rfl, rfl, rfl, by decide +kernel, rfl, by decide +kernel, by decide +kernel⟩
abbrev s_data_places : Stmt := top 23
abbrev N_data_places : List Str := ["shape", "groups", "size", "sums", "group", "at"]
theorem sc_data_places : FnScope N_data_places ["shape"] (defScope s_data_places) := ⟨rfl, rfl, rfl, by decide +kernel, rfl, by decide +kernel, by decide +kernel⟩
abbrev s_kind_of : Stmt := top 24
abbrev N_kind_of : List Str := ["place", "shape", "groups", "size", "sums", "group", "at"]
theorem sc_kind_of : FnScope N_kind_of ["place", "shape"] (defScope s_kind_of) := ⟨rfl, rfl, rfl, by decide +kernel, rfl, by decide +kernel, by decide +kernel⟩
abbrev s_mark : Stmt := top 25
abbrev N_mark : List Str := ["place", "shape", "word", "where", "group", "at"]
theorem sc_mark : FnScope N_mark ["place", "shape"] (defScope s_mark) := ⟨rfl, rfl, rfl, by decide +kernel, rfl, by decide +kernel, by decide +kernel⟩
abbrev s_local_check : Stmt := top 26
abbrev N_local_check : List Str := ["group", "shape", "groups", "size", "sums", "row", "first"]
theorem sc_local_check : FnScope N_local_check ["group", "shape"] (defScope s_local_check) := ⟨rfl, rfl, rfl, by decide +kernel, rfl, by decide +kernel, by decide +kernel⟩
abbrev s_over_check : Stmt := top 27
abbrev N_over_check : List Str := ["number", "shape", "groups", "size", "sums", "row", "place"]
theorem sc_over_check : FnScope N_over_check ["number", "shape"] (defScope s_over_check) := ⟨rfl, rfl, rfl, by decide +kernel, rfl, by decide +kernel, by decide +kernel⟩
abbrev s_checks : Stmt := top 28
abbrev N_checks : List Str := ["shape", "groups", "size", "sums", "rows", "group", "number"]
theorem sc_checks : FnScope N_checks ["shape"] (defScope s_checks) := ⟨rfl, rfl, rfl, by decide +kernel, rfl, by decide +kernel, by decide +kernel⟩
abbrev s_filled : Stmt := top 29
abbrev N_filled : List Str := ["data", "shape", "groups", "size", "sums", "marks", "found", "group", "own", "number", "first", "at", "one", "other"]
theorem sc_filled : FnScope N_filled ["data", "shape"] (defScope s_filled) := ⟨rfl, rfl, rfl, by decide +kernel, rfl, by decide +kernel, by decide +kernel⟩
abbrev s_is_filling : Stmt := top 30
abbrev N_is_filling : List Str := ["thing", "shape", "many", "row", "one", "factor", "number"]
theorem sc_is_filling : FnScope N_is_filling ["thing", "shape"] (defScope s_is_filling) := ⟨rfl, rfl, rfl, by decide +kernel, rfl, by decide +kernel, by decide +kernel⟩
abbrev s_need_row : Stmt := top 33
abbrev N_need_row : List Str := ["thing", "at", "number"]
theorem sc_need_row : FnScope N_need_row ["thing"] (defScope s_need_row) := ⟨rfl, rfl, rfl, by decide +kernel, rfl, by decide +kernel, by decide +kernel⟩
abbrev s_cells_for : Stmt := top 34
abbrev N_cells_for : List Str := ["many", "shape", "wide"]
theorem sc_cells_for : FnScope N_cells_for ["many", "shape"] (defScope s_cells_for) := ⟨rfl, rfl, rfl, by decide +kernel, rfl, by decide +kernel, by decide +kernel⟩
abbrev s_laid : Stmt := top 35
abbrev N_laid : List Str := ["row", "shape", "wide", "many", "whole", "fillings", "at", "place", "one"]
theorem sc_laid : FnScope N_laid ["row", "shape"] (defScope s_laid) := ⟨rfl, rfl, rfl, by decide +kernel, rfl, by decide +kernel, by decide +kernel⟩
abbrev s_unlaid : Stmt := top 36
abbrev N_unlaid : List Str := ["pieces", "many", "shape", "spots", "place", "found", "at", "cell", "spot"]
theorem sc_unlaid : FnScope N_unlaid ["pieces", "many", "shape"] (defScope s_unlaid) := ⟨rfl, rfl, rfl, by decide +kernel, rfl, by decide +kernel, by decide +kernel⟩
abbrev s_needed : Stmt := top 37
abbrev N_needed : List Str := ["first", "behind", "shape", "spots", "at"]
theorem sc_needed : FnScope N_needed ["first", "behind", "shape"] (defScope s_needed) := ⟨rfl, rfl, rfl, by decide +kernel, rfl, by decide +kernel, by decide +kernel⟩
abbrev s__law_purse : Stmt := top 39
abbrev N__law_purse : List Str := ["script", "k", "cell"]
theorem sc__law_purse : FnScope N__law_purse ["script", "k"] (defScope s__law_purse) := ⟨rfl, rfl, rfl, by decide +kernel, rfl, by decide +kernel, by decide +kernel⟩
abbrev s__law_drawn : Stmt := top 40
abbrev N__law_drawn : List Str := ["purse", "many", "found", "turn", "mixed"]
theorem sc__law_drawn : FnScope N__law_drawn ["purse", "many"] (defScope s__law_drawn) := ⟨rfl, rfl, rfl, by decide +kernel, rfl, by decide +kernel, by decide +kernel⟩
abbrev s__law_shape : Stmt := top 41
abbrev N__law_shape : List Str := ["purse", "most", "found", "groups", "size", "sums"]
theorem sc__law_shape : FnScope N__law_shape ["purse", "most"] (defScope s__law_shape) := ⟨rfl, rfl, rfl, by decide +kernel, rfl, by decide +kernel, by decide +kernel⟩
abbrev s__law_row : Stmt := top 42
abbrev N__law_row : List Str := ["purse", "most", "k"]
theorem sc__law_row : FnScope N__law_row ["purse", "most"] (defScope s__law_row) := ⟨rfl, rfl, rfl, by decide +kernel, rfl, by decide +kernel, by decide +kernel⟩
abbrev s__law_read_back : Stmt := top 43
abbrev N__law_read_back : List Str := ["row", "mould", "pieces", "at", "alone", "place"]
theorem sc__law_read_back : FnScope N__law_read_back ["row", "mould"] (defScope s__law_read_back) := ⟨rfl, rfl, rfl, by decide +kernel, rfl, by decide +kernel, by decide +kernel⟩
abbrev s__law_steps : Stmt := top 44
abbrev N__law_steps : List Str := ["mould", "own", "step", "found", "place", "kind", "by"]
theorem sc__law_steps : FnScope N__law_steps ["mould", "own", "step"] (defScope s__law_steps) := ⟨rfl, rfl, rfl, by decide +kernel, rfl, by decide +kernel, by decide +kernel⟩
abbrev s__law_changes : Stmt := top 45
abbrev N__law_changes : List Str := ["mould", "ones", "others", "at", "steps", "place", "cell"]
theorem sc__law_changes : FnScope N__law_changes ["mould", "ones", "others", "at", "steps"] (defScope s__law_changes) := ⟨rfl, rfl, rfl, by decide +kernel, rfl, by decide +kernel, by decide +kernel⟩
abbrev s_law : Stmt := top 46
abbrev N_law : List Str := ["script", "k", "purse", "step", "mould", "row", "spot", "other", "own", "at", "ones"]
theorem sc_law : FnScope N_law ["script"] (defScope s_law) := ⟨rfl, rfl, rfl, by decide +kernel, rfl, by decide +kernel, by decide +kernel⟩
abbrev s_NoPlace_init : Stmt := clsStmt (top 3) 0
theorem sc_NoPlace_init : FnScope ["self", "place"] ["self", "place"] (defScope s_NoPlace_init) := ⟨rfl, rfl, rfl, by decide +kernel, rfl, by decide +kernel, by decide +kernel⟩
abbrev s_NoRow_init : Stmt := clsStmt (top 4) 0
theorem sc_NoRow_init : FnScope ["self", "at"] ["self", "at"] (defScope s_NoRow_init) := ⟨rfl, rfl, rfl, by decide +kernel, rfl, by decide +kernel, by decide +kernel⟩
abbrev s_NoShape_init : Stmt := clsStmt (top 2) 0
theorem sc_NoShape_init : FnScope ["self", "shape"] ["self", "shape"] (defScope s_NoShape_init) := ⟨rfl, rfl, rfl, by decide +kernel, rfl, by decide +kernel, by decide +kernel⟩
/-! ### the head: one run in the kernel; what it tells -/
def dd_plus : He.DefD := ⟨("plus", none), "plus", "plus", defArgs s_plus, defBody s_plus, defScope s_plus, [], []⟩
def dd_minus : He.DefD := ⟨("minus", none), "minus", "minus", defArgs s_minus, defBody s_minus, defScope s_minus, [], []⟩
def dd_times : He.DefD := ⟨("times", none), "times", "times", defArgs s_times, defBody s_times, defScope s_times, [], []⟩
def dd_power : He.DefD := ⟨("power", none), "power", "power", defArgs s_power, defBody s_power, defScope s_power, [], []⟩
def dd_is_whole : He.DefD := ⟨("is_whole", none), "is_whole", "is_whole", defArgs s_is_whole, defBody s_is_whole, defScope s_is_whole, [], []⟩
def dd_is_number : He.DefD := ⟨("is_number", none), "is_number", "is_number", defArgs s_is_number, defBody s_is_number, defScope s_is_number, [], []⟩
def dd_is_shape : He.DefD := ⟨("is_shape", none), "is_shape", "is_shape", defArgs s_is_shape, defBody s_is_shape, defScope s_is_shape, [], []⟩
def dd_need_shape : He.DefD := ⟨("need_shape", none), "need_shape", "need_shape", defArgs s_need_shape, defBody s_need_shape, defScope s_need_shape, [], []⟩
def dd_count : He.DefD := ⟨("count", none), "count", "count", defArgs s_count, defBody s_count, defScope s_count, [], [("shape", He.Dv.glo "PLAIN")]⟩
def dd_is_place : He.DefD := ⟨("is_place", none), "is_place", "is_place", defArgs s_is_place, defBody s_is_place, defScope s_is_place, [], []⟩
def dd_need_places : He.DefD := ⟨("need_places", none), "need_places", "need_places", defArgs s_need_places, defBody s_need_places, defScope s_need_places, [], []⟩
def dd_data_places : He.DefD := ⟨("data_places", none), "data_places", "data_places", defArgs s_data_places, defBody s_data_places, defScope s_data_places, [], [("shape", He.Dv.glo "PLAIN")]⟩
def dd_kind_of : He.DefD := ⟨("kind_of", none), "kind_of", "kind_of", defArgs s_kind_of, defBody s_kind_of, defScope s_kind_of, [], [("shape", He.Dv.glo "PLAIN")]⟩
def dd_mark : He.DefD := ⟨("mark", none), "mark", "mark", defArgs s_mark, defBody s_mark, defScope s_mark, [], [("shape", He.Dv.glo "PLAIN")]⟩
def dd_local_check : He.DefD := ⟨("local_check", none), "local_check", "local_check", defArgs s_local_check, defBody s_local_check, defScope s_local_check, [], []⟩
def dd_over_check : He.DefD := ⟨("over_check", none), "over_check", "over_check", defArgs s_over_check, defBody s_over_check, defScope s_over_check, [], []⟩
def dd_checks : He.DefD := ⟨("checks", none), "checks", "checks", defArgs s_checks, defBody s_checks, defScope s_checks, [], [("shape", He.Dv.glo "PLAIN")]⟩
def dd_filled : He.DefD := ⟨("filled", none), "filled", "filled", defArgs s_filled, defBody s_filled, defScope s_filled, [], []⟩
def dd_is_filling : He.DefD := ⟨("is_filling", none), "is_filling", "is_filling", defArgs s_is_filling, defBody s_is_filling, defScope s_is_filling, [], [("shape", He.Dv.glo "PLAIN")]⟩
def dd_need_row : He.DefD := ⟨("need_row", none), "need_row", "need_row", defArgs s_need_row, defBody s_need_row, defScope s_need_row, [], []⟩
def dd_cells_for : He.DefD := ⟨("cells_for", none), "cells_for", "cells_for", defArgs s_cells_for, defBody s_cells_for, defScope s_cells_for, [], [("shape", He.Dv.glo "PLAIN")]⟩
def dd_laid : He.DefD := ⟨("laid", none), "laid", "laid", defArgs s_laid, defBody s_laid, defScope s_laid, [], [("shape", He.Dv.glo "PLAIN")]⟩
def dd_unlaid : He.DefD := ⟨("unlaid", none), "unlaid", "unlaid", defArgs s_unlaid, defBody s_unlaid, defScope s_unlaid, [], [("shape", He.Dv.glo "PLAIN")]⟩
def dd_needed : He.DefD := ⟨("needed", none), "needed", "needed", defArgs s_needed, defBody s_needed, defScope s_needed, [], [("shape", He.Dv.glo "PLAIN")]⟩
def dd__law_purse : He.DefD := ⟨("_law_purse", none), "_law_purse", "_law_purse", defArgs s__law_purse, defBody s__law_purse, defScope s__law_purse, [], []⟩
def dd__law_drawn : He.DefD := ⟨("_law_drawn", none), "_law_drawn", "_law_drawn", defArgs s__law_drawn, defBody s__law_drawn, defScope s__law_drawn, [], []⟩
def dd__law_shape : He.DefD := ⟨("_law_shape", none), "_law_shape", "_law_shape", defArgs s__law_shape, defBody s__law_shape, defScope s__law_shape, [], []⟩
def dd__law_row : He.DefD := ⟨("_law_row", none), "_law_row", "_law_row", defArgs s__law_row, defBody s__law_row, defScope s__law_row, [], []⟩
def dd__law_read_back : He.DefD := ⟨("_law_read_back", none), "_law_read_back", "_law_read_back", defArgs s__law_read_back, defBody s__law_read_back, defScope s__law_read_back, [], []⟩
def dd__law_steps : He.DefD := ⟨("_law_steps", none), "_law_steps", "_law_steps", defArgs s__law_steps, defBody s__law_steps, defScope s__law_steps, [], []⟩
def dd__law_changes : He.DefD := ⟨("_law_changes", none), "_law_changes", "_law_changes", defArgs s__law_changes, defBody s__law_changes, defScope s__law_changes, [], []⟩
def dd_law : He.DefD := ⟨("law", none), "law", "law", defArgs s_law, defBody s_law, defScope s_law, [], []⟩
def dd_NoPlace_init : He.DefD := ⟨("NoPlace", some "__init__"), "__init__", "NoPlace.__init__", defArgs s_NoPlace_init, defBody s_NoPlace_init, defScope s_NoPlace_init, [], []⟩
def dd_NoRow_init : He.DefD := ⟨("NoRow", some "__init__"), "__init__", "NoRow.__init__", defArgs s_NoRow_init, defBody s_NoRow_init, defScope s_NoRow_init, [], []⟩
def dd_NoShape_init : He.DefD := ⟨("NoShape", some "__init__"), "__init__", "NoShape.__init__", defArgs s_NoShape_init, defBody s_NoShape_init, defScope s_NoShape_init, [], []⟩
def fnL0 : List He.DefD := [dd_plus,
  dd_minus,
  dd_times,
  dd_power,
  dd_is_whole,
  dd_is_number,
  dd_is_shape,
  dd_need_shape,
  dd_count,
  dd_is_place,
  dd_need_places,
  dd_data_places,
  dd_kind_of,
  dd_mark,
  dd_local_check,
  dd_over_check,
  dd_checks,
  dd_filled,
  dd_is_filling,
  dd_need_row,
  dd_cells_for,
  dd_laid,
  dd_unlaid,
  dd_needed,
  dd__law_purse]
def fnL1 : List He.DefD := [dd__law_drawn,
  dd__law_shape,
  dd__law_row,
  dd__law_read_back,
  dd__law_steps,
  dd__law_changes,
  dd_law,
  dd_NoPlace_init,
  dd_NoRow_init,
  dd_NoShape_init]
def fnL : List He.DefD := fnL0 ++ (fnL1)
def exL0 (K : PySem.W.Frag) : List Bool := [decide (PySem.W.nsIn K mainGlobals "plus" = some (some (.ref (He.ga K "plus")))),
  decide (PySem.W.nsIn K mainGlobals "minus" = some (some (.ref (He.ga K "minus")))),
  decide (PySem.W.nsIn K mainGlobals "times" = some (some (.ref (He.ga K "times")))),
  decide (PySem.W.nsIn K mainGlobals "power" = some (some (.ref (He.ga K "power")))),
  decide (PySem.W.nsIn K mainGlobals "is_whole" = some (some (.ref (He.ga K "is_whole")))),
  decide (PySem.W.nsIn K mainGlobals "is_number" = some (some (.ref (He.ga K "is_number")))),
  decide (PySem.W.nsIn K mainGlobals "is_shape" = some (some (.ref (He.ga K "is_shape")))),
  decide (PySem.W.nsIn K mainGlobals "need_shape" = some (some (.ref (He.ga K "need_shape")))),
  decide (PySem.W.nsIn K mainGlobals "count" = some (some (.ref (He.ga K "count")))),
  decide (PySem.W.nsIn K mainGlobals "is_place" = some (some (.ref (He.ga K "is_place")))),
  decide (PySem.W.nsIn K mainGlobals "need_places" = some (some (.ref (He.ga K "need_places")))),
  decide (PySem.W.nsIn K mainGlobals "data_places" = some (some (.ref (He.ga K "data_places")))),
  decide (PySem.W.nsIn K mainGlobals "kind_of" = some (some (.ref (He.ga K "kind_of")))),
  decide (PySem.W.nsIn K mainGlobals "mark" = some (some (.ref (He.ga K "mark")))),
  decide (PySem.W.nsIn K mainGlobals "local_check" = some (some (.ref (He.ga K "local_check")))),
  decide (PySem.W.nsIn K mainGlobals "over_check" = some (some (.ref (He.ga K "over_check")))),
  decide (PySem.W.nsIn K mainGlobals "checks" = some (some (.ref (He.ga K "checks")))),
  decide (PySem.W.nsIn K mainGlobals "filled" = some (some (.ref (He.ga K "filled")))),
  decide (PySem.W.nsIn K mainGlobals "is_filling" = some (some (.ref (He.ga K "is_filling")))),
  decide (PySem.W.nsIn K mainGlobals "need_row" = some (some (.ref (He.ga K "need_row")))),
  decide (PySem.W.nsIn K mainGlobals "cells_for" = some (some (.ref (He.ga K "cells_for")))),
  decide (PySem.W.nsIn K mainGlobals "laid" = some (some (.ref (He.ga K "laid")))),
  decide (PySem.W.nsIn K mainGlobals "unlaid" = some (some (.ref (He.ga K "unlaid")))),
  decide (PySem.W.nsIn K mainGlobals "needed" = some (some (.ref (He.ga K "needed")))),
  decide (PySem.W.nsIn K mainGlobals "_law_purse" = some (some (.ref (He.ga K "_law_purse"))))]
def exL1 (K : PySem.W.Frag) : List Bool := [decide (PySem.W.nsIn K mainGlobals "_law_drawn" = some (some (.ref (He.ga K "_law_drawn")))),
  decide (PySem.W.nsIn K mainGlobals "_law_shape" = some (some (.ref (He.ga K "_law_shape")))),
  decide (PySem.W.nsIn K mainGlobals "_law_row" = some (some (.ref (He.ga K "_law_row")))),
  decide (PySem.W.nsIn K mainGlobals "_law_read_back" = some (some (.ref (He.ga K "_law_read_back")))),
  decide (PySem.W.nsIn K mainGlobals "_law_steps" = some (some (.ref (He.ga K "_law_steps")))),
  decide (PySem.W.nsIn K mainGlobals "_law_changes" = some (some (.ref (He.ga K "_law_changes")))),
  decide (PySem.W.nsIn K mainGlobals "law" = some (some (.ref (He.ga K "law")))),
  He.tupB K "MARKS" (([1, 11, 40, 30] : List Int).map He.Dv.int),
  decide (PySem.W.nsIn K mainGlobals "MARKS" = some (some (.ref (He.ga K "MARKS")))),
  He.tupB K "PLAIN" (([2, 3, 2] : List Int).map He.Dv.int),
  decide (PySem.W.nsIn K mainGlobals "PLAIN" = some (some (.ref (He.ga K "PLAIN")))),
  (He.Fa.int "PRIME" 97).ok K,
  (He.Fa.int "MOST_SIZE" 4).ok K,
  (He.Fa.int "MOST_SUMS" 2).ok K,
  (He.Fa.int "MOST" 60).ok K,
  decide (PySem.W.kitOne K (.type "NoneType") (.ref (He.ga K "NoPlace")) = some false),
  decide (PySem.W.nsIn K mainGlobals "NoPlace" = some (some (.ref (He.ga K "NoPlace")))),
  decide (PySem.W.kitOne K (.type "NoneType") (.ref (He.ga K "NoRow")) = some false),
  decide (PySem.W.nsIn K mainGlobals "NoRow" = some (some (.ref (He.ga K "NoRow")))),
  decide (PySem.W.kitOne K (.type "NoneType") (.ref (He.ga K "NoShape")) = some false),
  decide (PySem.W.nsIn K mainGlobals "NoShape" = some (some (.ref (He.ga K "NoShape")))),
  decide (PySem.W.subIn K (.ref (He.ga K "NoPlace")) (.type "BaseException") = some true),
  excB K (He.ga K "NoPlace"),
  decide (PySem.W.findIn K (.ref (He.ga K "NoPlace")) "__setattr__" = some (some (.builtin "object.__setattr__"))),
  decide (PySem.W.typeIn K (.ref (He.ga K "NoPlace")) = some (.type "type"))]
def exL2 (K : PySem.W.Frag) : List Bool := [PySem.W.keepIn K (.ref (He.ga K "NoPlace")),
  decide (PySem.W.findIn K (.ref (He.ga K "NoPlace")) "__getattribute__" = some (some (.builtin "BaseException.__getattribute__"))),
  decide (PySem.W.findIn K (.ref (He.ga K "NoPlace")) "__getattr__" = some none),
  PySem.W.hasDictIn K (He.ga K "NoPlace"),
  decide (PySem.W.findIn K (.ref (He.ga K "NoPlace")) "__class__" = some (some (.builtin "object.__class__"))),
  decide (PySem.W.specialIn K (.builtin "object.__class__") "__get__" = some (some (.builtin "getset_descriptor.__get__"))),
  decide (PySem.W.takesIn K (.builtin "object.__class__") = some true),
  decide (PySem.W.mroIn K (He.ga K "NoPlace") (.type "object") = some true),
  decide (PySem.W.findIn K (.ref (He.ga K "NoPlace")) "place" = some none),
  decide (PySem.W.findIn K (.ref (He.ga K "NoPlace")) "__init__" = some (some (.ref (He.ma K (He.ga K "NoPlace") "__init__")))),
  decide (PySem.W.typeIn K (.ref (He.ma K (He.ga K "NoPlace") "__init__")) = some (.type "function")),
  decide (PySem.W.kitOne K (.ref (He.ga K "NoPlace")) (.ref (He.ga K "NoPlace")) = some true),
  decide (PySem.W.kitOne K (.ref (He.ga K "NoPlace")) (.ref (He.ga K "NoRow")) = some false),
  decide (PySem.W.kitOne K (.ref (He.ga K "NoPlace")) (.ref (He.ga K "NoShape")) = some false),
  decide (PySem.W.subIn K (.ref (He.ga K "NoRow")) (.type "BaseException") = some true),
  excB K (He.ga K "NoRow"),
  decide (PySem.W.findIn K (.ref (He.ga K "NoRow")) "__setattr__" = some (some (.builtin "object.__setattr__"))),
  decide (PySem.W.typeIn K (.ref (He.ga K "NoRow")) = some (.type "type")),
  PySem.W.keepIn K (.ref (He.ga K "NoRow")),
  decide (PySem.W.findIn K (.ref (He.ga K "NoRow")) "__getattribute__" = some (some (.builtin "BaseException.__getattribute__"))),
  decide (PySem.W.findIn K (.ref (He.ga K "NoRow")) "__getattr__" = some none),
  PySem.W.hasDictIn K (He.ga K "NoRow"),
  decide (PySem.W.findIn K (.ref (He.ga K "NoRow")) "__class__" = some (some (.builtin "object.__class__"))),
  decide (PySem.W.specialIn K (.builtin "object.__class__") "__get__" = some (some (.builtin "getset_descriptor.__get__"))),
  decide (PySem.W.takesIn K (.builtin "object.__class__") = some true)]
def exL3 (K : PySem.W.Frag) : List Bool := [decide (PySem.W.mroIn K (He.ga K "NoRow") (.type "object") = some true),
  decide (PySem.W.findIn K (.ref (He.ga K "NoRow")) "at" = some none),
  decide (PySem.W.findIn K (.ref (He.ga K "NoRow")) "__init__" = some (some (.ref (He.ma K (He.ga K "NoRow") "__init__")))),
  decide (PySem.W.typeIn K (.ref (He.ma K (He.ga K "NoRow") "__init__")) = some (.type "function")),
  decide (PySem.W.kitOne K (.ref (He.ga K "NoRow")) (.ref (He.ga K "NoPlace")) = some false),
  decide (PySem.W.kitOne K (.ref (He.ga K "NoRow")) (.ref (He.ga K "NoRow")) = some true),
  decide (PySem.W.kitOne K (.ref (He.ga K "NoRow")) (.ref (He.ga K "NoShape")) = some false),
  decide (PySem.W.subIn K (.ref (He.ga K "NoShape")) (.type "BaseException") = some true),
  excB K (He.ga K "NoShape"),
  decide (PySem.W.findIn K (.ref (He.ga K "NoShape")) "__setattr__" = some (some (.builtin "object.__setattr__"))),
  decide (PySem.W.typeIn K (.ref (He.ga K "NoShape")) = some (.type "type")),
  PySem.W.keepIn K (.ref (He.ga K "NoShape")),
  decide (PySem.W.findIn K (.ref (He.ga K "NoShape")) "__getattribute__" = some (some (.builtin "BaseException.__getattribute__"))),
  decide (PySem.W.findIn K (.ref (He.ga K "NoShape")) "__getattr__" = some none),
  PySem.W.hasDictIn K (He.ga K "NoShape"),
  decide (PySem.W.findIn K (.ref (He.ga K "NoShape")) "__class__" = some (some (.builtin "object.__class__"))),
  decide (PySem.W.specialIn K (.builtin "object.__class__") "__get__" = some (some (.builtin "getset_descriptor.__get__"))),
  decide (PySem.W.takesIn K (.builtin "object.__class__") = some true),
  decide (PySem.W.mroIn K (He.ga K "NoShape") (.type "object") = some true),
  decide (PySem.W.findIn K (.ref (He.ga K "NoShape")) "shape" = some none),
  decide (PySem.W.findIn K (.ref (He.ga K "NoShape")) "__init__" = some (some (.ref (He.ma K (He.ga K "NoShape") "__init__")))),
  decide (PySem.W.typeIn K (.ref (He.ma K (He.ga K "NoShape") "__init__")) = some (.type "function")),
  decide (PySem.W.kitOne K (.ref (He.ga K "NoShape")) (.ref (He.ga K "NoPlace")) = some false),
  decide (PySem.W.kitOne K (.ref (He.ga K "NoShape")) (.ref (He.ga K "NoRow")) = some false),
  decide (PySem.W.kitOne K (.ref (He.ga K "NoShape")) (.ref (He.ga K "NoShape")) = some true)]
def exL4 (K : PySem.W.Frag) : List Bool := [decide (PySem.W.nsIn K mainGlobals "all" = some none),
  decide (PySem.W.nsIn K mainGlobals "bool" = some none),
  decide (PySem.W.nsIn K mainGlobals "divmod" = some none),
  decide (PySem.W.nsIn K mainGlobals "enumerate" = some none),
  decide (PySem.W.nsIn K mainGlobals "int" = some none),
  decide (PySem.W.nsIn K mainGlobals "isinstance" = some none),
  decide (PySem.W.nsIn K mainGlobals "len" = some none),
  decide (PySem.W.nsIn K mainGlobals "list" = some none),
  decide (PySem.W.nsIn K mainGlobals "max" = some none),
  decide (PySem.W.nsIn K mainGlobals "min" = some none),
  decide (PySem.W.nsIn K mainGlobals "range" = some none),
  decide (PySem.W.nsIn K mainGlobals "sorted" = some none),
  decide (PySem.W.nsIn K mainGlobals "sum" = some none),
  decide (PySem.W.nsIn K mainGlobals "tuple" = some none),
  decide (PySem.W.nsIn K mainGlobals "zip" = some none)]
def exL (K : PySem.W.Frag) : List Bool := exL0 K ++ (exL1 K ++ (exL2 K ++ (exL3 K ++ (exL4 K))))
def loL0 : List PySem.Str := ["SherdError",
  "NoShape",
  "NoPlace",
  "NoRow",
  "PRIME",
  "plus",
  "minus",
  "times",
  "power",
  "MARKS",
  "MOST_SIZE",
  "MOST_SUMS",
  "PLAIN",
  "is_whole",
  "is_number",
  "is_shape",
  "need_shape",
  "count",
  "is_place",
  "need_places",
  "data_places",
  "kind_of",
  "mark",
  "local_check",
  "over_check"]
def loL1 : List PySem.Str := ["checks",
  "filled",
  "is_filling",
  "MOST",
  "need_row",
  "cells_for",
  "laid",
  "unlaid",
  "needed",
  "_law_purse",
  "_law_drawn",
  "_law_shape",
  "_law_row",
  "_law_read_back",
  "_law_steps",
  "_law_changes"]
def loL : List PySem.Str := loL0 ++ (loL1)
abbrev RR : PySem.W.OpenRow := PySem.W.OpenLaw.row PySem.Challenge.rw_sherdhall_k11_whole_one_number_changed
abbrev hkL : PySem.W.Hook := hookS 5 fnL exL
def obL (s : PySem.W.SharedT) : AlS := obsSG 5 fnL exL (HandSHeadRun.getT s)
theorem obL_eq (s : PySem.W.SharedT) : obL s = hkL.obs s.abs := obsSG_eq (HandSHeadRun.getT_eq s)
set_option maxHeartbeats 0 in
theorem runL (w : World) : HandSHeadRun.RunEq RR (PySem.W.view RR.prog [46]) hkL obL 40000 loL w := by
  intro os
  kernel_rfl
/-! ### behind the head -/
/-- a shape's numbers -/
def ShOk (g s u : Int) : Prop := (1 ≤ g ∧ g ≤ 4) ∧ (1 ≤ s ∧ s ≤ 4) ∧ (0 ≤ u ∧ u ≤ 2)
abbrev shD (g s u : Int) : D := .tup [.int g, .int s, .int u]
/-- things that are handed in -/
def plainK : D → Bool
  | .non => true
  | .bl _ => true
  | .int _ => true
  | .str _ => true
  | .lst _ => true
  | .tup _ => true
  | .dct _ => true
  | _ => false
def isI : D → Bool
  | .int _ => true
  | _ => false
def isNum : D → Bool
  | .int i => decide (0 ≤ i) && decide (i < 97)
  | _ => false
def toI : D → Int
  | .int i => i
  | _ => 0
/-- what may be handed in -/
def plainF : D → Prop
  | .lst xs => xs.length ≤ 100000 ∧ ∀ x ∈ xs, plainK x = true
  | d => plainK d = true
theorem ShOk.nat {g s u : Nat} (h : ShOk g s u) : (1 ≤ g ∧ g ≤ 4) ∧ (1 ≤ s ∧ s ≤ 4) ∧ u ≤ 2 := by
  obtain ⟨⟨a, b⟩, ⟨c, d⟩, e, f⟩ := h
  omega
theorem ShOk.many {g s u : Nat} (h : ShOk g s u) : g * (s + 1) + u ≤ 22 ∧ 2 ≤ g * (s + 1) + u := by
  obtain ⟨⟨a, b⟩, ⟨c, d⟩, f⟩ := h.nat
  have q : g * (s + 1) ≤ 4 * 5 := Nat.mul_le_mul b (by omega)
  have q2 : 1 * 2 ≤ g * (s + 1) := Nat.mul_le_mul a (by omega)
  omega
theorem shD_inj {g s u g' s' u' : Nat} (h : shD g s u = shD g' s' u') : g = g' ∧ s = s' ∧ u = u' := by
  injection h with h
  injection h with h1 h
  injection h with h2 h
  injection h with h3 h
  injection h1 with h1
  injection h2 with h2
  injection h3 with h3
  omega

/-! any thing handed in as a shape -/
def plainT : D → Prop
  | .tup xs => xs.length ≤ 100000 ∧ ∀ x ∈ xs, plainK x = true
  | d => plainK d = true
def shB (g s u : Int) : Bool := (decide (1 ≤ g) && decide (g ≤ 4)) && ((decide (1 ≤ s) && decide (s ≤ 4)) && (decide (0 ≤ u) && decide (u ≤ 2)))
def isShape : D → Bool
  | .tup [.int g, .int s, .int u] => shB g s u
  | _ => false
theorem shB_iff {g s u : Int} : shB g s u = true ↔ ShOk g s u := by
  unfold shB ShOk
  simp [Bool.and_eq_true]
theorem isShape_ok {g s u : Int} (h : ShOk g s u) : isShape (shD g s u) = true := shB_iff.mpr h
theorem isShape_inv {d : D} (h : isShape d = true) : ∃ g s u : Nat, d = shD g s u ∧ ShOk g s u := by
  unfold isShape at h
  split at h
  · rename_i g s u
    have q := shB_iff.mp h
    obtain ⟨⟨a, b⟩, ⟨c, d⟩, e, f⟩ := id q
    obtain ⟨g', rfl⟩ := Int.eq_ofNat_of_zero_le (show 0 ≤ g by omega)
    obtain ⟨s', rfl⟩ := Int.eq_ofNat_of_zero_le (show 0 ≤ s by omega)
    obtain ⟨u', rfl⟩ := Int.eq_ofNat_of_zero_le e
    exact ⟨g', s', u', rfl, q⟩
  · cases h
theorem plainT_sh (g s u : Int) : plainT (shD g s u) := ⟨by show 3 ≤ 100000; decide, fun x hx => by
  rcases List.mem_cons.mp hx with rfl | hx
  · rfl
  · rcases List.mem_cons.mp hx with rfl | hx
    · rfl
    · rw [List.mem_singleton.mp hx]; rfl⟩
/-- is it a place of the shape -/
def isPl (g s u : Int) : D → Bool
  | .int i => decide (0 ≤ i) && decide (i < g * (s + 1) + u)
  | _ => false
/-- refused: no shape -/
def exS (C : Addr) (d : D) (X : Addr) (fs : List (Str × D)) : Prop := isShape d = false ∧ X = C ∧ fs = [(("shape" : Str), d)]
def exP (C : Addr) (t : D) (X : Addr) (fs : List (Str × D)) : Prop := X = C ∧ fs = [(("place" : Str), t)]
theorem exS_no {C X : Addr} {fs : List (Str × D)} {g s u : Int} (h : ShOk g s u) : ¬ exS C (shD g s u) X fs := fun z => by
  rw [exS, isShape_ok h] at z
  cases z.1

abbrev iL (ns : List Int) : List D := ns.map D.int
theorem getD_iL {ns : List Int} {i : Nat} (h : i < ns.length) : (iL ns).getD i .non = .int (ns.getD i 0) := by
  rw [List.getD_eq_getElem?_getD, List.getD_eq_getElem?_getD, List.getElem?_map, List.getElem?_eq_getElem h]
  rfl
theorem iL_inj {ns ms : List Int} (h : iL ns = iL ms) : ns = ms := by
  induction ns generalizing ms with
  | nil =>
    cases ms with
    | nil => rfl
    | cons m ms => cases h
  | cons n ns ih =>
    cases ms with
    | nil => cases h
    | cons m ms =>
      injection h with h1 h2
      injection h1 with h1
      rw [h1, ih h2]
theorem iL_app (ns ms : List Int) : iL (ns ++ ms) = iL ns ++ iL ms := List.map_append
theorem iL_len (ns : List Int) : (iL ns).length = ns.length := List.length_map ..
theorem pair_eq (a c x y : Int) : D.eq (.tup [.int a, .int c]) (.tup [.int x, .int y]) = (decide (a = x) && decide (c = y)) := by
  simp [D.eq, D.py, D.pyA, PyData.eqv, PyData.eqvAll, Bool.beq_eq_decide_eq]
theorem atI_iL {ms : List Int} {k : Nat} (hk : k < ms.length) : L2.atI (iL ms) (k : Int) = some (.int (ms.getD k 0)) := by
  refine atI_nn (by omega) ?_
  rw [Int.toNat_natCast]
  show (ms.map D.int)[k]? = _
  rw [List.getElem?_map, List.getD_eq_getElem?_getD, List.getElem?_eq_getElem hk]
  rfl

theorem map_getD (ns : List Int) : (List.range ns.length).map (fun i => ns.getD i 0) = ns := by
  apply List.ext_getElem
  · simp
  · intro i h1 h2
    rw [List.getElem_map, List.getElem_range, List.getD_eq_getElem?_getD, List.getElem?_eq_getElem h2]
    rfl
theorem lc_filter (q : Int → Bool) (ns : List Int) : ((List.range ns.length).filter fun i => q (ns.getD i 0)).map (fun i => D.int (ns.getD i 0)) = iL (ns.filter q) := by
  have e : ns.filter q = ((List.range ns.length).map fun i => ns.getD i 0).filter q := by rw [map_getD]
  rw [e, List.filter_map, iL, List.map_map]
  rfl
theorem eq_nil (ns : List Int) : D.eq (.lst (iL ns)) (.lst []) = decide (ns = []) := by
  cases ns with
  | nil => simp [D.eq, D.py, D.pyA, PyData.eqv, PyData.eqvAll]
  | cons n ns => simp [D.eq, D.py, D.pyA, PyData.eqv, PyData.eqvAll]
theorem shpL_iL (n : Nat) : ∀ ns : List Int, D.shpA n (iL ns) = true
  | [] => by simp [D.shpA]
  | m :: ns => by
    show (D.shp n (.int m) && D.shpA n (iL ns)) = true
    rw [shpL_iL n ns]
    simp [D.shp]
theorem shp_iL (n : Nat) : ∀ ns : List Int, D.shpA n (iL ns) = true
  | [] => by simp [D.shpA]
  | m :: ns => by
    show (D.shp n (.int m) && D.shpA n (iL ns)) = true
    rw [shp_iL n ns]
    simp [D.shp]
theorem shp_lst (ns : List Int) : D.shp 64 (.lst (iL ns)) = true := shp_iL 63 ns
theorem eq_iLA : ∀ ns : List Int, PyData.eqvAll (D.pyA (iL ns)) (D.pyA (iL ns)) = true
  | [] => by simp [D.pyA, PyData.eqvAll]
  | m :: ns => by
    show PyData.eqvAll (D.py (.int m) :: D.pyA (iL ns)) (D.py (.int m) :: D.pyA (iL ns)) = true
    simp only [PyData.eqvAll, eq_iLA ns, Bool.and_true]
    simp [D.py, PyData.eqv]
theorem eq_iL (ns : List Int) : D.eq (.lst (iL ns)) (.lst (iL ns)) = true := by
  simp only [D.eq, D.py, PyData.eqv]
  exact eq_iLA ns
theorem eq_iLm (ns ms : List Int) : D.eq (.lst (iL ns)) (.lst (iL ms)) = decide (ns = ms) := by
  have main : ∀ ns ms : List Int, PyData.eqvAll (D.pyA (iL ns)) (D.pyA (iL ms)) = decide (ns = ms) := by
    intro ns
    induction ns with
    | nil =>
      intro ms
      cases ms with
      | nil => simp [D.pyA, PyData.eqvAll]
      | cons m ms => simp [D.pyA, PyData.eqvAll]
    | cons n ns ih =>
      intro ms
      cases ms with
      | nil => simp [D.pyA, PyData.eqvAll]
      | cons m ms =>
        show PyData.eqvAll (D.py (.int n) :: D.pyA (iL ns)) (D.py (.int m) :: D.pyA (iL ms)) = _
        simp only [PyData.eqvAll, ih ms]
        have e : PyData.eqv (D.py (.int n)) (D.py (.int m)) = decide (n = m) := eq_int n m
        rw [e]
        by_cases h : n = m
        · subst h; simp
        · simp [h]
  simp only [D.eq, D.py, PyData.eqv]
  exact main ns ms

/-! the places of a row's numbers -/
/-- the places of data -/
def dataP (g s : Nat) : List Int := (List.range g).flatMap fun (i : Nat) => (List.range s).map fun (j : Nat) => (i : Int) * ((s : Int) + 1) + (j : Int)
theorem dataP_len' (g s : Nat) : (dataP g s).length = g * s := by
  unfold dataP
  rw [List.length_flatMap]
  have e : (List.range g).map (fun (i : Nat) => ((List.range s).map fun (j : Nat) => (i : Int) * ((s : Int) + 1) + (j : Int)).length) = List.replicate g s := by
    apply List.ext_getElem
    · simp
    · intro i h1 h2
      simp
  rw [e, List.sum_replicate_nat]
theorem dataP_up : ∀ (g s : Nat), (dataP g s).Pairwise (· < ·) ∧ ∀ p ∈ dataP g s, 0 ≤ p ∧ p < (g : Int) * ((s : Int) + 1)
  | 0, s => by simp [dataP]
  | g + 1, s => by
    obtain ⟨h1, h2⟩ := dataP_up g s
    have e : dataP (g + 1) s = dataP g s ++ (List.range s).map fun (j : Nat) => (g : Int) * ((s : Int) + 1) + (j : Int) := by
      unfold dataP
      rw [List.range_succ, List.flatMap_append]
      simp
    have g0 : (0 : Int) ≤ (g : Int) * ((s : Int) + 1) := Int.mul_nonneg (by omega) (by omega)
    have e1 : ((g + 1 : Nat) : Int) * ((s : Int) + 1) = (g : Int) * ((s : Int) + 1) + ((s : Int) + 1) := by push_cast; rw [Int.add_mul, Int.one_mul]
    rw [e]
    refine ⟨List.pairwise_append.mpr ⟨h1, ?_, fun a ha c hc => ?_⟩, fun p hp => ?_⟩
    · refine List.pairwise_map.mpr (List.pairwise_lt_range.imp fun h => ?_)
      omega
    · obtain ⟨j, _, rfl⟩ := List.mem_map.mp hc
      have := (h2 a ha).2
      omega
    · rw [e1]
      rcases List.mem_append.mp hp with hp | hp
      · have := h2 p hp
        omega
      · obtain ⟨j, hj, rfl⟩ := List.mem_map.mp hp
        have := List.mem_range.mp hj
        omega
/-- the place of a number of a row -/
def spotI (g s : Nat) (m : Int) : Int := (dataP g s).getD (m % ((g : Int) * (s : Int))).toNat 0
/-- the places of the numbers from m up to n, rising -/
def needV (g s : Nat) (m n : Int) : List Int := (dataP g s).filter fun p => (List.range (n - m).toNat).any fun (i : Nat) => decide (spotI g s (m + i) = p)
theorem spot_mem {g s : Nat} (g0 : 1 ≤ g) (s0 : 1 ≤ s) (m : Int) : spotI g s m ∈ dataP g s ∧ (m % ((g : Int) * (s : Int))).toNat < (dataP g s).length := by
  have w0 : 0 < (g : Int) * (s : Int) := Int.mul_pos (by omega) (by omega)
  have a := Int.emod_nonneg m (show (g : Int) * (s : Int) ≠ 0 by omega)
  have b := Int.emod_lt_of_pos m w0
  have hl : (m % ((g : Int) * (s : Int))).toNat < (dataP g s).length := by
    rw [dataP_len']
    have e : ((g * s : Nat) : Int) = (g : Int) * (s : Int) := by push_cast; rfl
    omega
  refine ⟨?_, hl⟩
  unfold spotI
  rw [List.getD_eq_getElem?_getD, List.getElem?_eq_getElem hl]
  exact List.getElem_mem hl
theorem need_up (g s : Nat) (m n : Int) : (needV g s m n).Pairwise (· < ·) := (dataP_up g s).1.filter _
theorem need_mem {g s : Nat} (g0 : 1 ≤ g) (s0 : 1 ≤ s) {m n k : Int} : k ∈ needV g s m n ↔ ∃ i : Nat, i < (n - m).toNat ∧ spotI g s (m + i) = k := by
  unfold needV
  rw [List.mem_filter, List.any_eq_true]
  refine ⟨fun ⟨_, i, hi, h⟩ => ⟨i, List.mem_range.mp hi, of_decide_eq_true h⟩, fun ⟨i, hi, h⟩ => ⟨?_, i, List.mem_range.mpr hi, decide_eq_true h⟩⟩
  rw [← h]
  exact (spot_mem g0 s0 _).1
theorem need_len {g s : Nat} {m n : Int} : (needV g s m n).length ≤ g * s := by
  rw [← dataP_len' g s]
  exact List.length_filter_le _ _
def isDt (s p : Nat) : Bool := !decide (p % (s + 1) = s)
theorem spots_all (s : Nat) : ∀ g : Nat, ((List.range (g * (s + 1))).filter (isDt s)).map (fun (p : Nat) => D.int p) = iL (dataP g s)
  | 0 => by simp [dataP, iL]
  | g + 1 => by
    have e : dataP (g + 1) s = dataP g s ++ (List.range s).map fun (j : Nat) => (g : Int) * ((s : Int) + 1) + (j : Int) := by
      unfold dataP
      rw [List.range_succ, List.flatMap_append]
      simp
    rw [Nat.add_mul, Nat.one_mul, List.range_add, List.filter_append, List.map_append, spots_all s g, e]
    unfold iL
    rw [List.map_append]
    congr 1
    rw [List.range_succ, List.map_append, List.filter_append, List.map_append]
    have md : ∀ j, j < s + 1 → (g * (s + 1) + j) % (s + 1) = j := fun j hj => by rw [Nat.mul_comm, Nat.mul_add_mod, Nat.mod_eq_of_lt hj]
    have e1 : ((List.range s).map (g * (s + 1) + ·)).filter (isDt s) = (List.range s).map (g * (s + 1) + ·) := List.filter_eq_self.mpr fun p hp => by
      obtain ⟨j, hj, rfl⟩ := List.mem_map.mp hp
      have hj := List.mem_range.mp hj
      unfold isDt
      rw [md j (by omega), decide_eq_false (show ¬ j = s by omega)]; rfl
    have e2 : ([s].map (g * (s + 1) + ·)).filter (isDt s) = [] := by
      have : isDt s (g * (s + 1) + s) = false := by
        unfold isDt
        rw [md s (by omega), decide_eq_true rfl]; rfl
      simp [this]
    rw [e1, e2, List.map_nil, List.append_nil, List.map_map, List.map_map]
    refine List.map_congr_left fun j hj => ?_
    show D.int ((g * (s + 1) + j : Nat) : Int) = D.int _
    congr 1

/-! sums -/
def sm : Nat → (Nat → Int) → Int
  | 0, _ => 0
  | n + 1, f => sm n f + f n
theorem sm_congr {f g : Nat → Int} : ∀ {n : Nat}, (∀ i, i < n → f i = g i) → sm n f = sm n g
  | 0, _ => rfl
  | n + 1, h => by
    show sm n f + f n = sm n g + g n
    rw [sm_congr fun i hi => h i (Nat.lt_succ_of_lt hi), h n (Nat.lt_succ_self n)]
theorem sm_add (m : Nat) (f : Nat → Int) : ∀ n : Nat, sm (m + n) f = sm m f + sm n (fun i => f (m + i))
  | 0 => by show sm m f = sm m f + 0; omega
  | n + 1 => by
    show sm (m + n) f + f (m + n) = sm m f + (sm n (fun i => f (m + i)) + f (m + n))
    rw [sm_add m f n, Int.add_assoc]
theorem sm_zero {f : Nat → Int} : ∀ {n : Nat}, (∀ i, i < n → f i = 0) → sm n f = 0
  | 0, _ => rfl
  | n + 1, h => by
    show sm n f + f n = 0
    rw [sm_zero fun i hi => h i (Nat.lt_succ_of_lt hi), h n (Nat.lt_succ_self n)]
    rfl
theorem sm_mul (b : Nat) (f : Nat → Int) : ∀ a : Nat, sm (a * b) f = sm a (fun i => sm b (fun j => f (i * b + j)))
  | 0 => by rw [Nat.zero_mul]; rfl
  | a + 1 => by
    rw [Nat.add_mul, Nat.one_mul, sm_add, sm_mul b f a]
    rfl
theorem sm_one {f : Nat → Int} {k : Nat} : ∀ {n : Nat}, k < n → (∀ i, i < n → i ≠ k → f i = 0) → sm n f = f k
  | 0, h, _ => absurd h (Nat.not_lt_zero _)
  | n + 1, h, z => by
    show sm n f + f n = f k
    by_cases e : k = n
    · subst e
      rw [sm_zero fun i hi => z i (Nat.lt_succ_of_lt hi) (Nat.ne_of_lt hi), Int.zero_add]
    · rw [sm_one (n := n) (by omega) (fun i hi => z i (Nat.lt_succ_of_lt hi)), z n (Nat.lt_succ_self n) (Ne.symm e), Int.add_zero]
theorem sm_plus (f g : Nat → Int) : ∀ n : Nat, sm n (fun i => f i + g i) = sm n f + sm n g
  | 0 => rfl
  | n + 1 => by
    show sm n (fun i => f i + g i) + (f n + g n) = sm n f + f n + (sm n g + g n)
    rw [sm_plus f g n]; omega
theorem sm_scale (c : Int) (f : Nat → Int) : ∀ n : Nat, sm n (fun i => c * f i) = c * sm n f
  | 0 => by show (0 : Int) = c * 0; rw [Int.mul_zero]
  | n + 1 => by
    show sm n (fun i => c * f i) + c * f n = c * (sm n f + f n)
    rw [sm_scale c f n, Int.mul_add]
theorem sm_mod {f g : Nat → Int} : ∀ {n : Nat}, (∀ i, i < n → f i % 97 = g i % 97) → sm n f % 97 = sm n g % 97
  | 0, _ => rfl
  | n + 1, h => by
    show (sm n f + f n) % 97 = (sm n g + g n) % 97
    have h1 := sm_mod (n := n) fun i hi => h i (Nat.lt_succ_of_lt hi)
    have h2 := h n (Nat.lt_succ_self n)
    omega
theorem sm_range (f : Nat → Int) : ∀ n : Nat, ((List.range n).map f).sum = sm n f
  | 0 => rfl
  | n + 1 => by
    rw [List.range_succ, List.map_append, List.sum_append, sm_range f n]
    show sm n f + ([f n].sum) = _
    simp [sm]
theorem sm_list (ns : List Int) : ns.sum = sm ns.length (fun i => ns.getD i 0) := by
  rw [← sm_range]
  congr 1
  apply List.ext_getElem
  · simp
  · intro i h1 h2
    rw [List.getElem_map, List.getElem_range, List.getD_eq_getElem?_getD, List.getElem?_eq_getElem h1]
    rfl
theorem mm97 (a b : Int) : a * b % 97 = (a % 97) * b % 97 := by rw [Int.mul_emod, Int.mul_emod (a % 97) b, Int.emod_emod_of_dvd a (Int.dvd_refl 97)]
def dot (r v : List Int) : Int := sm (min r.length v.length) (fun i => r.getD i 0 * v.getD i 0)
theorem dot_of {r v : List Int} {n : Nat} (h1 : r.length = n) (h2 : v.length = n) : dot r v = sm n (fun i => r.getD i 0 * v.getD i 0) := by
  unfold dot
  rw [h1, h2, Nat.min_self]
theorem getD_mapR (f : Nat → Int) {n i : Nat} (h : i < n) : ((List.range n).map f).getD i 0 = f i := by
  rw [List.getD_eq_getElem?_getD, List.getElem?_map, List.getElem?_eq_getElem (by rw [List.length_range]; exact h), List.getElem_range]
  rfl
theorem getD_set (v : List Int) (p i : Nat) (x : Int) (h : p < v.length) : (v.set p x).getD i 0 = if i = p then x else v.getD i 0 := by
  rw [List.getD_eq_getElem?_getD, List.getD_eq_getElem?_getD]
  by_cases e : i = p
  · subst e
    rw [List.getElem?_set_self h, if_pos rfl]
    rfl
  · rw [List.getElem?_set_ne (Ne.symm e), if_neg e]
theorem dot_set {r v : List Int} {n p : Nat} (x : Int) (h1 : r.length = n) (h2 : v.length = n) (hp : p < n) : dot r (v.set p x) = dot r v + r.getD p 0 * (x - v.getD p 0) := by
  rw [dot_of h1 (by rw [List.length_set]; exact h2), dot_of h1 h2]
  have e : sm n (fun i => r.getD i 0 * (v.set p x).getD i 0) = sm n (fun i => r.getD i 0 * v.getD i 0 + (if i = p then r.getD p 0 * (x - v.getD p 0) else 0)) := sm_congr fun i hi => by
    rw [getD_set v p i x (by omega)]
    by_cases e : i = p
    · subst e
      rw [if_pos rfl, if_pos rfl, Int.mul_sub]; omega
    · rw [if_neg e, if_neg e, Int.add_zero]
  rw [e, sm_plus]
  congr 1
  rw [sm_one (k := p) hp fun i _ z => if_neg z]
  exact if_pos rfl

/-! the checks of a shape -/
def many (g s u : Nat) : Nat := g * (s + 1) + u
def sgn (i j : Nat) : Int := [1, 11, 40, 30].getD i 0 + (j : Int)
def locF (s k p : Nat) : Int := if p / (s + 1) = k then (if p % (s + 1) = s then 96 else 1) else 0
def ovF (g s n p : Nat) : Int := if p < g * (s + 1) then (if p % (s + 1) = s then 0 else (sgn (p / (s + 1)) (p % (s + 1))) ^ n % 97) else if p + 1 = g * (s + 1) + n then 96 else 0
def locR (g s u k : Nat) : List Int := (List.range (many g s u)).map (locF s k)
def ovR (g s u n : Nat) : List Int := (List.range (many g s u)).map (ovF g s n)
def rowsV (g s u : Nat) : List (List Int) := (List.range g).map (locR g s u) ++ (List.range u).map (fun n => ovR g s u (n + 1))
theorem dv (k b j : Nat) (h : j < b) : (k * b + j) / b = k := by
  rw [Nat.add_comm, Nat.add_mul_div_right _ _ (by omega), Nat.div_eq_of_lt h, Nat.zero_add]
theorem md (k b j : Nat) (h : j < b) : (k * b + j) % b = j := by
  rw [Nat.add_comm, Nat.add_mul_mod_self_right, Nat.mod_eq_of_lt h]
theorem blk_lt {i g b j : Nat} (hi : i < g) (hj : j < b) : i * b + j < g * b := by
  have h : (i + 1) * b ≤ g * b := Nat.mul_le_mul_right b hi
  rw [Nat.add_mul, Nat.one_mul] at h
  omega
theorem loc_dot (g s u k : Nat) (v : Nat → Int) (hk : k < g) : sm (many g s u) (fun p => locF s k p * v p) = sm s (fun j => v (k * (s + 1) + j)) + 96 * v (k * (s + 1) + s) := by
  unfold many
  rw [sm_add, sm_mul]
  have h2 : sm u (fun i => locF s k (g * (s + 1) + i) * v (g * (s + 1) + i)) = 0 := sm_zero fun i _ => by
    unfold locF
    rw [if_neg, Int.zero_mul]
    intro z
    have q : g ≤ (g * (s + 1) + i) / (s + 1) := by
      rw [Nat.le_div_iff_mul_le (by omega)]; omega
    omega
  rw [h2, Int.add_zero, sm_one (k := k) hk fun i hi hik => sm_zero fun j hj => by
    unfold locF
    rw [dv i (s + 1) j hj, if_neg hik, Int.zero_mul]]
  show sm s _ + locF s k (k * (s + 1) + s) * v (k * (s + 1) + s) = _
  congr 1
  · refine sm_congr fun j hj => ?_
    unfold locF
    rw [dv k (s + 1) j (by omega), md k (s + 1) j (by omega), if_pos rfl, if_neg (by omega), Int.one_mul]
  · unfold locF
    rw [dv k (s + 1) s (by omega), md k (s + 1) s (by omega), if_pos rfl, if_pos rfl]
theorem ov_dot (g s u n : Nat) (v : Nat → Int) (hn : n < u) : sm (many g s u) (fun p => ovF g s (n + 1) p * v p) = sm g (fun i => sm s (fun j => (sgn i j ^ (n + 1) % 97) * v (i * (s + 1) + j))) + 96 * v (g * (s + 1) + n) := by
  unfold many
  rw [sm_add, sm_mul]
  congr 1
  · refine sm_congr fun i hi => ?_
    show sm s _ + ovF g s (n + 1) (i * (s + 1) + s) * v (i * (s + 1) + s) = _
    have e : ovF g s (n + 1) (i * (s + 1) + s) * v (i * (s + 1) + s) = 0 := by
      unfold ovF
      rw [if_pos (blk_lt hi (by omega)), md i (s + 1) s (by omega), if_pos rfl, Int.zero_mul]
    rw [e, Int.add_zero]
    refine sm_congr fun j hj => ?_
    unfold ovF
    rw [if_pos (blk_lt hi (by omega)), md i (s + 1) j (by omega), dv i (s + 1) j (by omega), if_neg (by omega)]
  · rw [sm_one (k := n) hn fun i hi hin => by
      unfold ovF
      rw [if_neg (by omega), if_neg (by omega), Int.zero_mul]]
    unfold ovF
    rw [if_neg (by omega), if_pos (by omega)]
theorem locR_len (g s u k : Nat) : (locR g s u k).length = many g s u := by simp [locR]
theorem ovR_len (g s u k : Nat) : (ovR g s u k).length = many g s u := by simp [ovR]
theorem rows_len {g s u : Nat} {r : List Int} (h : r ∈ rowsV g s u) : r.length = many g s u := by
  unfold rowsV at h
  rcases List.mem_append.mp h with h | h
  · obtain ⟨k, _, rfl⟩ := List.mem_map.mp h; exact locR_len ..
  · obtain ⟨k, _, rfl⟩ := List.mem_map.mp h; exact ovR_len ..
theorem dot_loc {g s u k : Nat} {v : List Int} (hv : v.length = many g s u) (hk : k < g) : dot (locR g s u k) v = sm s (fun j => v.getD (k * (s + 1) + j) 0) + 96 * v.getD (k * (s + 1) + s) 0 := by
  rw [dot_of (locR_len ..) hv, ← loc_dot g s u k (fun p => v.getD p 0) hk]
  exact sm_congr fun i hi => by rw [locR, getD_mapR _ hi]
theorem dot_ov {g s u n : Nat} {v : List Int} (hv : v.length = many g s u) (hn : n < u) : dot (ovR g s u (n + 1)) v = sm g (fun i => sm s (fun j => (sgn i j ^ (n + 1) % 97) * v.getD (i * (s + 1) + j) 0)) + 96 * v.getD (g * (s + 1) + n) 0 := by
  rw [dot_of (ovR_len ..) hv, ← ov_dot g s u n (fun p => v.getD p 0) hn]
  exact sm_congr fun i hi => by rw [ovR, getD_mapR _ hi]
/-- v keeps all checks -/
def keepsV (g s u : Nat) (v : List Int) : Bool := (rowsV g s u).all fun r => decide (dot r v % 97 = 0)
theorem keeps_iff {g s u : Nat} {v : List Int} : keepsV g s u v = true ↔ (∀ k, k < g → dot (locR g s u k) v % 97 = 0) ∧ ∀ n, n < u → dot (ovR g s u (n + 1)) v % 97 = 0 := by
  unfold keepsV rowsV
  rw [List.all_append, Bool.and_eq_true, List.all_eq_true, List.all_eq_true]
  constructor
  · rintro ⟨h1, h2⟩
    exact ⟨fun k hk => of_decide_eq_true (h1 _ (List.mem_map_of_mem (List.mem_range.mpr hk))), fun n hn => of_decide_eq_true (h2 _ (List.mem_map.mpr ⟨n, List.mem_range.mpr hn, rfl⟩))⟩
  · rintro ⟨h1, h2⟩
    refine ⟨fun r hr => ?_, fun r hr => ?_⟩
    · obtain ⟨k, hk, rfl⟩ := List.mem_map.mp hr
      exact decide_eq_true (h1 k (List.mem_range.mp hk))
    · obtain ⟨k, hk, rfl⟩ := List.mem_map.mp hr
      exact decide_eq_true (h2 k (List.mem_range.mp hk))
/-! what the data fix -/
def fillF (g s : Nat) (dt : Nat → Int) (p : Nat) : Int := if p < g * (s + 1) then (if p % (s + 1) = s then sm s (fun j => dt (p / (s + 1) * s + j)) % 97 else dt (p / (s + 1) * s + p % (s + 1))) else sm g (fun i => sm s (fun j => sgn i j ^ (p - g * (s + 1) + 1) * dt (i * s + j))) % 97
def fillV (g s u : Nat) (data : List Int) : List Int := (List.range (many g s u)).map (fillF g s fun i => data.getD i 0)
theorem fillV_len (g s u : Nat) (data : List Int) : (fillV g s u data).length = many g s u := by simp [fillV]
theorem fill_data {g s : Nat} {dt : Nat → Int} {i j : Nat} (hi : i < g) (hj : j < s) : fillF g s dt (i * (s + 1) + j) = dt (i * s + j) := by
  unfold fillF
  rw [if_pos (blk_lt hi (by omega)), md i (s + 1) j (by omega), dv i (s + 1) j (by omega), if_neg (by omega)]
theorem fill_loc {g s : Nat} {dt : Nat → Int} {i : Nat} (hi : i < g) : fillF g s dt (i * (s + 1) + s) = sm s (fun j => dt (i * s + j)) % 97 := by
  unfold fillF
  rw [if_pos (blk_lt hi (by omega)), md i (s + 1) s (by omega), dv i (s + 1) s (by omega), if_pos rfl]
theorem fill_ov {g s : Nat} {dt : Nat → Int} {n : Nat} : fillF g s dt (g * (s + 1) + n) = sm g (fun i => sm s (fun j => sgn i j ^ (n + 1) * dt (i * s + j))) % 97 := by
  unfold fillF
  rw [if_neg (by omega), show g * (s + 1) + n - g * (s + 1) = n by omega]
theorem keeps_fill (g s u : Nat) (data : List Int) : keepsV g s u (fillV g s u data) = true := by
  have at_ : ∀ p, p < many g s u → (fillV g s u data).getD p 0 = fillF g s (fun i => data.getD i 0) p := fun p hp => getD_mapR _ hp
  rw [keeps_iff]
  refine ⟨fun k hk => ?_, fun n hn => ?_⟩
  · rw [dot_loc (fillV_len ..) hk]
    have hb := blk_lt (b := s + 1) hk (show s < s + 1 by omega)
    have e : sm s (fun j => (fillV g s u data).getD (k * (s + 1) + j) 0) = sm s (fun j => data.getD (k * s + j) 0) := sm_congr fun j hj => by
      rw [at_ _ (by unfold many; omega), fill_data hk hj]
    rw [e, at_ _ (by unfold many; omega), fill_loc hk]
    omega
  · rw [dot_ov (fillV_len ..) hn, at_ _ (by unfold many; omega), fill_ov]
    have e : sm g (fun i => sm s (fun j => (sgn i j ^ (n + 1) % 97) * (fillV g s u data).getD (i * (s + 1) + j) 0)) % 97 = sm g (fun i => sm s (fun j => sgn i j ^ (n + 1) * data.getD (i * s + j) 0)) % 97 := sm_mod fun i hi => sm_mod fun j hj => by
      have hb := blk_lt (b := s + 1) hi (show j < s + 1 by omega)
      rw [at_ _ (by unfold many; omega), fill_data hi hj, ← mm97]
    omega
theorem keeps_lin {g s u : Nat} {a b : List Int} {f : Int} (ha : keepsV g s u a = true) (hb : keepsV g s u b = true) (la : a.length = many g s u) (lb : b.length = many g s u) :
    keepsV g s u ((List.range (many g s u)).map fun j => (a.getD j 0 + f * b.getD j 0) % 97) = true := by
  unfold keepsV at ha hb ⊢
  rw [List.all_eq_true] at ha hb ⊢
  intro r hr
  have h1 := of_decide_eq_true (ha r hr)
  have h2 := of_decide_eq_true (hb r hr)
  have lr := rows_len hr
  rw [dot_of lr la] at h1
  rw [dot_of lr lb] at h2
  apply decide_eq_true
  rw [dot_of lr (by simp)]
  have e : sm (many g s u) (fun i => r.getD i 0 * ((List.range (many g s u)).map fun j => (a.getD j 0 + f * b.getD j 0) % 97).getD i 0) % 97 = sm (many g s u) (fun i => r.getD i 0 * a.getD i 0 + f * (r.getD i 0 * b.getD i 0)) % 97 := sm_mod fun i hi => by
    rw [getD_mapR _ hi, Int.mul_comm, ← mm97, Int.mul_comm, Int.mul_add]
    congr 2
    rw [← Int.mul_assoc, Int.mul_comm (r.getD i 0) f, Int.mul_assoc]
  rw [e, sm_plus, sm_scale]
  obtain ⟨c, hc⟩ := Int.dvd_of_emod_eq_zero h2
  rw [hc, ← Int.mul_assoc, Int.mul_comm f, Int.mul_assoc]
  omega
theorem keeps_zero (g s u : Nat) : keepsV g s u (List.replicate (many g s u) 0) = true := by
  unfold keepsV
  rw [List.all_eq_true]
  intro r hr
  apply decide_eq_true
  rw [dot_of (rows_len hr) (by simp), sm_zero fun i hi => ?_]
  · rfl
  · rw [List.getD_eq_getElem?_getD, List.getD_eq_getElem?_getD, List.getElem?_replicate_of_lt hi]
    exact Int.mul_zero _
/-- at each place a check sees -/
theorem row_at {g s u p : Nat} (hp : p < many g s u) : ∃ r ∈ rowsV g s u, r.getD p 0 = 1 ∨ r.getD p 0 = 96 := by
  by_cases h : p < g * (s + 1)
  · refine ⟨locR g s u (p / (s + 1)), List.mem_append_left _ (List.mem_map_of_mem (List.mem_range.mpr ?_)), ?_⟩
    · rw [Nat.div_lt_iff_lt_mul (by omega)]; exact h
    · rw [locR, getD_mapR _ hp]
      unfold locF
      rw [if_pos rfl]
      split
      · exact .inr rfl
      · exact .inl rfl
  · refine ⟨ovR g s u (p - g * (s + 1) + 1), List.mem_append_right _ (List.mem_map.mpr ⟨p - g * (s + 1), List.mem_range.mpr (by unfold many at hp; omega), rfl⟩), .inr ?_⟩
    rw [ovR, getD_mapR _ hp]
    unfold ovF
    rw [if_neg h, if_pos (by omega)]
theorem keeps_one {g s u p : Nat} {v : List Int} {x : Int} (h : keepsV g s u v = true) (hv : v.length = many g s u) (hp : p < many g s u) (hx : x % 97 ≠ v.getD p 0 % 97) : keepsV g s u (v.set p x) = false := by
  obtain ⟨r, hr, he⟩ := row_at hp
  unfold keepsV at h ⊢
  rw [List.all_eq_true] at h
  rw [List.all_eq_false]
  refine ⟨r, hr, ?_⟩
  have h1 := of_decide_eq_true (h r hr)
  have h2 := dot_set x (rows_len hr) hv hp
  simp only [decide_eq_true_eq]
  rw [h2]
  rcases he with he | he
  · rw [he]; omega
  · rw [he]; omega
theorem sgn_bd (i j : Nat) (h : j < 4) : (sgn i j).natAbs < 2 ^ 6 := by
  unfold sgn
  match i with
  | 0 => show ((1 : Int) + j).natAbs < _; omega
  | 1 => show ((11 : Int) + j).natAbs < _; omega
  | 2 => show ((40 : Int) + j).natAbs < _; omega
  | 3 => show ((30 : Int) + j).natAbs < _; omega
  | i + 4 => show ((0 : Int) + j).natAbs < _; omega

/-! rows in cells -/
/-- how many cells so many numbers take -/
def cellsV (g s : Nat) (m : Int) : Int := (m + (g : Int) * (s : Int) - 1) / ((g : Int) * (s : Int))
/-- a row -/
def rowOk (v : List Int) : Prop := v.length ≤ 60 ∧ ∀ x ∈ v, 0 ≤ x ∧ x < 97
def cellsN (g s : Nat) (v : List Int) : Nat := (cellsV g s (v.length : Int)).toNat
def wholeV (g s : Nat) (v : List Int) : List Int := v ++ List.replicate (cellsN g s v * (g * s) - v.length) 0
/-- the data numbers of a cell -/
def cellD (g s : Nat) (v : List Int) (a : Nat) : List Int := (List.range (g * s)).map fun j => (wholeV g s v).getD (a * (g * s) + j) 0
/-- the piece of a place -/
def colV (g s u : Nat) (v : List Int) (p : Nat) : List Int := (List.range (cellsN g s v)).map fun a => (fillV g s u (cellD g s v a)).getD p 0
def laidK (g s u : Nat) (v : List Int) : List (Key × D) := (List.range (many g s u)).map fun (p : Nat) => (Sum.inl (p : Int), .lst (iL (colV g s u v p)))
theorem cells_bd {g s : Nat} {v : List Int} (g0 : 1 ≤ g) (s0 : 1 ≤ s) : cellsV g s (v.length : Int) = (cellsN g s v : Int) ∧ v.length ≤ cellsN g s v * (g * s) ∧ cellsN g s v * (g * s) < v.length + g * s := by
  have w0 : 1 ≤ g * s := Nat.mul_le_mul g0 s0
  have e : cellsV g s (v.length : Int) = (((v.length + g * s - 1) / (g * s) : Nat) : Int) := by
    unfold cellsV
    have e1 : ((v.length : Int) + (g : Int) * (s : Int) - 1) = ((v.length + g * s - 1 : Nat) : Int) := by
      have : (g : Int) * (s : Int) = ((g * s : Nat) : Int) := by push_cast; rfl
      omega
    rw [e1]
    push_cast
    rfl
  have en : cellsN g s v = (v.length + g * s - 1) / (g * s) := by unfold cellsN; rw [e, Int.toNat_natCast]
  refine ⟨by rw [e, en], ?_, ?_⟩
  · have q := Nat.div_add_mod (v.length + g * s - 1) (g * s)
    have q2 := Nat.mod_lt (v.length + g * s - 1) (show 0 < g * s by omega)
    rw [en, Nat.mul_comm]
    omega
  · have q := Nat.div_mul_le_self (v.length + g * s - 1) (g * s)
    rw [en]
    omega
theorem whole_len {g s : Nat} {v : List Int} (g0 : 1 ≤ g) (s0 : 1 ≤ s) : (wholeV g s v).length = cellsN g s v * (g * s) := by
  have := cells_bd (v := v) g0 s0
  unfold wholeV
  rw [List.length_append, List.length_replicate]
  omega
theorem whole_getD (g s : Nat) (v : List Int) (k : Nat) : (wholeV g s v).getD k 0 = v.getD k 0 := by
  unfold wholeV
  rw [List.getD_eq_getElem?_getD, List.getD_eq_getElem?_getD]
  by_cases h : k < v.length
  · rw [List.getElem?_append_left h]
  · rw [List.getElem?_append_right (by omega), List.getElem?_eq_none (l := v) (by omega), List.getElem?_replicate]
    split <;> rfl
theorem cellD_eq (g s : Nat) (v : List Int) (a : Nat) : cellD g s v a = (List.range (g * s)).map fun j => v.getD (a * (g * s) + j) 0 := by
  unfold cellD
  exact List.map_congr_left fun j _ => whole_getD g s v _
theorem cellD_len (g s : Nat) (v : List Int) (a : Nat) : (cellD g s v a).length = g * s := by simp [cellD]
theorem row_getD {v : List Int} (h : rowOk v) (k : Nat) : 0 ≤ v.getD k 0 ∧ v.getD k 0 < 97 := by
  rw [List.getD_eq_getElem?_getD]
  cases e : v[k]? with
  | none => decide
  | some y => exact h.2 y (List.mem_of_getElem? e)
theorem cellD_bd {g s : Nat} {v : List Int} (h : rowOk v) (a : Nat) : ∀ x ∈ cellD g s v a, 0 ≤ x ∧ x < 97 := fun x hx => by
  rw [cellD_eq] at hx
  obtain ⟨j, _, rfl⟩ := List.mem_map.mp hx
  exact row_getD h _
/-- a piece of a list, filled up with noughts -/
theorem pad_eq (v : List Int) (st w : Nat) : (v.drop st).take w ++ List.replicate (w - ((v.drop st).take w).length) 0 = (List.range w).map fun j => v.getD (st + j) 0 := by
  apply List.ext_getElem
  · simp
    omega
  · intro j h1 h2
    have hj : j < w := by simpa using h2
    rw [List.getElem_map, List.getElem_range, List.getD_eq_getElem?_getD]
    by_cases h : st + j < v.length
    · rw [List.getElem_append_left (by simp; omega), List.getElem_take, List.getElem_drop, List.getElem?_eq_getElem h]
      rfl
    · rw [List.getElem_append_right (by simp; omega), List.getElem_replicate, List.getElem?_eq_none (by omega)]
      rfl
theorem cells_small {g s : Nat} {v : List Int} (g0 : 1 ≤ g) (s0 : 1 ≤ s) (hv : rowOk v) : cellsN g s v ≤ 60 := by
  obtain ⟨_, k2, k3⟩ := cells_bd (v := v) g0 s0
  have w0 : 1 ≤ g * s := Nat.mul_le_mul g0 s0
  have hv60 := hv.1
  by_cases z : cellsN g s v = 0
  · omega
  · have q : (cellsN g s v - 1) * (g * s) < v.length := by
      have e : (cellsN g s v - 1) * (g * s) = cellsN g s v * (g * s) - g * s := by rw [Nat.sub_mul, Nat.one_mul]
      have q3 : g * s ≤ cellsN g s v * (g * s) := Nat.le_mul_of_pos_left _ (by omega)
      omega
    have q2 := Nat.le_mul_of_pos_right (cellsN g s v - 1) (show 0 < g * s by omega)
    omega
theorem small_up {b c : Int} (hb : 0 ≤ b ∧ b < 100000) (hc : 1 ≤ c ∧ c < 100000) : Builtin.Range.small 0 b c = true := by
  have q := PyProof.Rows.rangeSize_pos (len := b) hc.1 hb.1
  have q1 : 0 ≤ (b + c - 1) / c := Int.ediv_nonneg (by omega) (by omega)
  have q2 : (b + c - 1) / c ≤ b + c - 1 := Int.ediv_le_self c (by omega)
  unfold Builtin.Range.small
  rw [q]
  generalize (b + c - 1) / c = n at *
  have f : ∀ i : Int, -1 ≤ i → i < 1000000 → Builtin.Range.rangeFitsLong i = true := fun i h1 h2 => by
    unfold Builtin.Range.rangeFitsLong
    rw [decide_eq_true (by omega), decide_eq_true (by omega)]; rfl
  rw [f 0 (by omega) (by omega), f b (by omega) (by omega), f c (by omega) (by omega), f n (by omega) (by omega), if_pos (by omega), f (b + (c - 1)) (by omega) (by omega)]
  simp
/-- the starts of the cells -/
theorem starts {g s : Nat} {v : List Int} (g0 : 1 ≤ g) (s0 : 1 ≤ s) (gs : g * s ≤ 16) (hv : rowOk v) : L2.RgC 0 (v.length : Int) ((g * s : Nat) : Int) (cellsN g s v) := by
  have w0 : 1 ≤ g * s := Nat.mul_le_mul g0 s0
  have hv60 := hv.1
  refine ⟨by omega, by omega, small_up (by omega) (by omega), ?_⟩
  rw [PyProof.Rows.rangeSize_pos (by omega) (by omega)]
  have q := (cells_bd (v := v) g0 s0).1
  unfold cellsV at q
  rw [← q]
  have e : (g : Int) * (s : Int) = ((g * s : Nat) : Int) := by push_cast; rfl
  rw [e]

/-! pieces read -/
/-- what lies at a place -/
def lkD (kds : List (Key × D)) (p : Int) : Option D := (kds.find? fun kv => decide (kv.1 = Sum.inl p)).map (·.2)
def hasK (kds : List (Key × D)) (p : Int) : Bool := kds.any fun kv => decide (kv.1 = Sum.inl p)
theorem hasK_lk (p : Int) : ∀ kds : List (Key × D), hasK kds p = (lkD kds p).isSome
  | [] => rfl
  | kv :: kds => by
    unfold hasK lkD
    rw [List.any_cons, List.find?_cons]
    by_cases e : kv.1 = Sum.inl p
    · rw [decide_eq_true e]; rfl
    · rw [decide_eq_false e]; exact hasK_lk p kds
def itm : D → List D
  | .lst xs => xs
  | _ => []
/-- a row's number, by its pieces -/
def unV (g s : Nat) (kds : List (Key × D)) (k : Nat) : D := (itm ((lkD kds (spotI g s (k : Int))).getD .non)).getD (k / (g * s)) .non
/-- the first place that lacks -/
def lackV (g s : Nat) (kds : List (Key × D)) (m : Nat) : Option Int := ((dataP g s).take m).find? fun p => !hasK kds p
def okU (g s : Nat) (kds : List (Key × D)) (m : Nat) : Prop := ∀ k, k < m → ∀ d, lkD kds (spotI g s (k : Int)) = some d → ∃ xs, d = .lst xs ∧ k / (g * s) < xs.length
theorem slc_take {xs : List D} (m : Nat) : slcD xs none (some (m : Int)) = xs.take m := by
  unfold slcD
  rw [HT.sIx_none, HT.sIx_nat, List.drop_zero, Nat.sub_zero]
  by_cases h : m ≤ xs.length
  · rw [Nat.min_eq_left h]
  · rw [Nat.min_eq_right (by omega), List.take_of_length_le (Nat.le_refl _), List.take_of_length_le (by omega)]
theorem lk_map {f : Int → D} {p : Int} : ∀ {l : List Int}, p ∈ l → lkD (l.map fun p => (Sum.inl p, f p)) p = some (f p)
  | [], h => by cases h
  | x :: l, h => by
    unfold lkD
    rw [List.map_cons, List.find?_cons]
    by_cases e : x = p
    · subst e
      rw [decide_eq_true rfl]; rfl
    · rw [decide_eq_false (fun z => e (Sum.inl.inj z))]
      exact lk_map ((List.mem_cons.mp h).resolve_left fun z => e z.symm)
theorem has_map {f : Int → D} {p : Int} : ∀ {l : List Int}, hasK (l.map fun p => (Sum.inl p, f p)) p = decide (p ∈ l)
  | [] => by simp [hasK]
  | x :: l => by
    unfold hasK
    rw [List.map_cons, List.any_cons]
    have ih := has_map (f := f) (p := p) (l := l)
    unfold hasK at ih
    rw [ih]
    by_cases e : x = p
    · subst e; simp
    · rw [decide_eq_false (show ¬ (Sum.inl x : Key) = Sum.inl p from fun z => e (Sum.inl.inj z))]
      simp [Ne.symm e]
theorem lk_none {f : Int → D} {p : Int} {l : List Int} (h : p ∉ l) : lkD (l.map fun p => (Sum.inl p, f p)) p = none := by
  have q := hasK_lk p (l.map fun p => (Sum.inl p, f p))
  rw [has_map, decide_eq_false h] at q
  exact Option.isNone_iff_eq_none.mp (by rw [← Option.not_isSome, ← q]; rfl)
theorem lk_mem {f : Int → D} {p : Int} {d : D} {l : List Int} (h : lkD (l.map fun p => (Sum.inl p, f p)) p = some d) : p ∈ l ∧ d = f p := by
  by_cases e : p ∈ l
  · rw [lk_map e] at h
    injection h with h
    exact ⟨e, h.symm⟩
  · rw [lk_none e] at h
    cases h
theorem slc_drop {xs : List D} (m : Nat) : slcD xs (some (m : Int)) none = xs.drop m := by
  unfold slcD
  rw [HT.sIx_none, HT.sIx_nat]
  by_cases h : m ≤ xs.length
  · rw [Nat.min_eq_left h, List.take_of_length_le (by rw [List.length_drop]; exact Nat.le_refl _)]
  · rw [Nat.min_eq_right (by omega), Nat.sub_self, List.take_zero, List.drop_of_length_le (by omega)]
theorem mapI_getD {α : Type} (F : Int → α) (l : List Int) : (List.range l.length).map (fun i => F (l.getD i 0)) = l.map F := by
  apply List.ext_getElem
  · simp
  · intro i h1 h2
    have hi : i < l.length := by simpa using h1
    rw [List.getElem_map, List.getElem_map, List.getElem_range, List.getD_eq_getElem?_getD, List.getElem?_eq_getElem hi]
    rfl
theorem filt_getD (t : Int → Bool) (l : List Int) : ((List.range l.length).filter fun i => t (l.getD i 0)).map (fun i => D.int (l.getD i 0)) = iL (l.filter t) := by
  have e : l = (List.range l.length).map fun i => l.getD i 0 := by
    have q := mapI_getD (fun x => x) l
    rw [q, List.map_id']
  conv => rhs; rw [e, List.filter_map]
  unfold iL
  rw [List.map_map]
  rfl
theorem spot_take {g s : Nat} (g0 : 1 ≤ g) (s0 : 1 ≤ s) {m k : Nat} (hk : k < m) : spotI g s (k : Int) ∈ (dataP g s).take m := by
  obtain ⟨_, hlt⟩ := spot_mem g0 s0 (k : Int)
  have w0 : 1 ≤ g * s := Nat.mul_le_mul g0 s0
  have gsi : (g : Int) * (s : Int) = ((g * s : Nat) : Int) := by push_cast; rfl
  have em : ((k : Int) % ((g : Int) * (s : Int))).toNat = k % (g * s) := by
    rw [gsi]
    have q2 : ((k : Int) % ((g * s : Nat) : Int)) = ((k % (g * s) : Nat) : Int) := by push_cast; rfl
    rw [q2, Int.toNat_natCast]
  unfold spotI
  rw [em] at hlt ⊢
  have hkm : k % (g * s) < m := Nat.lt_of_le_of_lt (Nat.mod_le _ _) hk
  rw [List.getD_eq_getElem?_getD, List.getElem?_eq_getElem hlt]
  exact List.mem_of_getElem? (i := k % (g * s)) (by rw [List.getElem?_take_of_lt hkm, List.getElem?_eq_getElem hlt]; rfl)
theorem atI_iLm {l : List Int} {z : Int} (h0 : 0 ≤ z) (h : z < (l.length : Int)) : L2.atI (iL l) z = some (.int (l.getD z.toNat 0)) ∧ l.getD z.toNat 0 ∈ l := by
  have hz : z.toNat < l.length := by omega
  rw [List.getD_eq_getElem?_getD, List.getElem?_eq_getElem hz]
  refine ⟨atI_nn h0 ?_, List.getElem_mem hz⟩
  unfold iL
  rw [List.getElem?_map, List.getElem?_eq_getElem hz]
  rfl

/-! a row read back of its pieces -/
theorem dataP_at {s j : Nat} (hj : j < s) : ∀ {g i : Nat}, i < g → (dataP g s).getD (i * s + j) 0 = ((i * (s + 1) + j : Nat) : Int)
  | 0, i, hi => absurd hi (Nat.not_lt_zero _)
  | g + 1, i, hi => by
    have e : dataP (g + 1) s = dataP g s ++ (List.range s).map fun (j : Nat) => (g : Int) * ((s : Int) + 1) + (j : Int) := by
      unfold dataP
      rw [List.range_succ, List.flatMap_append]
      simp
    rw [e, List.getD_eq_getElem?_getD]
    by_cases h : i < g
    · have hl := blk_lt (b := s) h hj
      rw [List.getElem?_append_left (by rw [dataP_len']; exact hl), ← List.getD_eq_getElem?_getD]
      exact dataP_at hj h
    · have hig : i = g := by omega
      subst hig
      rw [List.getElem?_append_right (by rw [dataP_len']; omega), dataP_len', List.getElem?_map, show i * s + j - i * s = j by omega, List.getElem?_eq_getElem (by rw [List.length_range]; exact hj), List.getElem_range]
      show (i : Int) * ((s : Int) + 1) + (j : Int) = _
      push_cast
      rfl
theorem spot_eq {g s : Nat} (g0 : 1 ≤ g) (s0 : 1 ≤ s) (k : Nat) : k % (g * s) / s < g ∧ spotI g s (k : Int) = ((k % (g * s) / s * (s + 1) + k % (g * s) % s : Nat) : Int) := by
  have w0 : 1 ≤ g * s := Nat.mul_le_mul g0 s0
  have hlt := Nat.mod_lt k (show 0 < g * s by omega)
  have hd : k % (g * s) / s < g := by rw [Nat.div_lt_iff_lt_mul (by omega)]; exact hlt
  refine ⟨hd, ?_⟩
  have e : ((k : Int) % ((g : Int) * (s : Int))).toNat = k % (g * s) := by
    have q : (g : Int) * (s : Int) = ((g * s : Nat) : Int) := by push_cast; rfl
    rw [q]
    have q2 : ((k : Int) % ((g * s : Nat) : Int)) = ((k % (g * s) : Nat) : Int) := by push_cast; rfl
    rw [q2, Int.toNat_natCast]
  unfold spotI
  rw [e]
  have q := dataP_at (g := g) (Nat.mod_lt (k % (g * s)) (show 0 < s by omega)) hd
  rw [← q]
  congr 1
  exact (Nat.div_add_mod' _ _).symm
theorem col_at {g s u : Nat} (g0 : 1 ≤ g) (s0 : 1 ≤ s) (v : List Int) {k : Nat} (hk : k / (g * s) < cellsN g s v) : (colV g s u v (spotI g s (k : Int)).toNat).getD (k / (g * s)) 0 = v.getD k 0 := by
  obtain ⟨hd, e⟩ := spot_eq g0 s0 k
  have w0 : 1 ≤ g * s := Nat.mul_le_mul g0 s0
  have hj := Nat.mod_lt (k % (g * s)) (show 0 < s by omega)
  have hlt := Nat.mod_lt k (show 0 < g * s by omega)
  rw [e, Int.toNat_natCast]
  generalize ha : k / (g * s) = a at *
  have hp := blk_lt (b := s + 1) hd (show k % (g * s) % s < s + 1 by omega)
  unfold colV
  rw [List.getD_eq_getElem?_getD, List.getElem?_map, List.getElem?_eq_getElem (by rw [List.length_range]; exact hk), List.getElem_range]
  show (fillV g s u (cellD g s v a)).getD _ 0 = _
  unfold fillV
  rw [List.getD_eq_getElem?_getD, List.getElem?_map, List.getElem?_eq_getElem (by rw [List.length_range]; unfold many; omega), List.getElem_range]
  rw [Option.map_some, Option.getD_some, fill_data hd hj]
  have em : k % (g * s) / s * s + k % (g * s) % s = k % (g * s) := Nat.div_add_mod' _ _
  rw [em, cellD_eq, List.getD_eq_getElem?_getD, List.getElem?_map, List.getElem?_eq_getElem (by rw [List.length_range]; exact hlt), List.getElem_range]
  show v.getD (a * (g * s) + k % (g * s)) 0 = _
  rw [← ha, Nat.div_add_mod']
theorem col_len (g s u : Nat) (v : List Int) (p : Nat) : (colV g s u v p).length = cellsN g s v := by simp [colV]
/-- .. of pieces, where they are there -/
theorem un_eq {g s u : Nat} (g0 : 1 ≤ g) (s0 : 1 ≤ s) {v : List Int} {kds : List (Key × D)} {k : Nat} (hk : k / (g * s) < cellsN g s v) (h : lkD kds (spotI g s (k : Int)) = some (.lst (iL (colV g s u v (spotI g s (k : Int)).toNat)))) : unV g s kds k = .int (v.getD k 0) := by
  unfold unV
  rw [h]
  show (iL (colV g s u v (spotI g s (k : Int)).toNat)).getD (k / (g * s)) .non = _
  rw [getD_iL (by rw [col_len]; exact hk), col_at g0 s0 v hk]
theorem un_all {g s u : Nat} (g0 : 1 ≤ g) (s0 : 1 ≤ s) {v : List Int} {kds : List (Key × D)} {m : Nat} (hm : m ≤ cellsN g s v * (g * s)) (h : ∀ k, k < m → lkD kds (spotI g s (k : Int)) = some (.lst (iL (colV g s u v (spotI g s (k : Int)).toNat)))) : (List.range m).map (unV g s kds) = iL ((List.range m).map fun k => v.getD k 0) := by
  unfold iL
  rw [List.map_map]
  refine List.map_congr_left fun k hk => ?_
  have hk := List.mem_range.mp hk
  exact un_eq (u := u) g0 s0 (by
    have w0 : 1 ≤ g * s := Nat.mul_le_mul g0 s0
    rw [Nat.div_lt_iff_lt_mul (by omega)]
    omega) (h k hk)
theorem take_getD {v : List Int} {m : Nat} (h : m ≤ v.length) : (List.range m).map (fun k => v.getD k 0) = v.take m := by
  apply List.ext_getElem
  · simp; omega
  · intro k h1 h2
    have hk : k < m := by simpa using h1
    rw [List.getElem_map, List.getElem_range, List.getElem_take, List.getD_eq_getElem?_getD, List.getElem?_eq_getElem (by omega)]
    rfl
theorem pad_take (v : List Int) (m sp : Nat) (h : m ≤ v.length + sp) : (List.range m).map (fun k => v.getD k 0) = (v ++ List.replicate sp 0).take m := by
  apply List.ext_getElem
  · simp; omega
  · intro k h1 h2
    have hk : k < m := by simpa using h1
    rw [List.getElem_map, List.getElem_range, List.getElem_take, List.getD_eq_getElem?_getD]
    by_cases e : k < v.length
    · rw [List.getElem?_eq_getElem e, List.getElem_append_left e]; rfl
    · rw [List.getElem?_eq_none (by omega), List.getElem_append_right (by omega), List.getElem_replicate]; rfl
theorem spot_bd {g s u : Nat} (g0 : 1 ≤ g) (s0 : 1 ≤ s) (k : Nat) : 0 ≤ spotI g s (k : Int) ∧ (spotI g s (k : Int)).toNat < many g s u ∧ (((spotI g s (k : Int)).toNat : Nat) : Int) = spotI g s (k : Int) := by
  obtain ⟨hd, e⟩ := spot_eq g0 s0 k
  have hj := Nat.mod_lt (k % (g * s)) (show 0 < s by omega)
  have hp := blk_lt (b := s + 1) hd (show k % (g * s) % s < s + 1 by omega)
  rw [e]
  refine ⟨by omega, ?_, by rw [Int.toNat_natCast]⟩
  rw [Int.toNat_natCast]
  unfold many
  omega
theorem laidK_map (g s u : Nat) (v : List Int) : laidK g s u v = ((List.range (many g s u)).map fun (p : Nat) => (p : Int)).map fun p => (Sum.inl p, .lst (iL (colV g s u v p.toNat))) := by
  unfold laidK
  rw [List.map_map]
  rfl
theorem laidK_lk {g s u : Nat} {v : List Int} {p : Int} (h0 : 0 ≤ p) (h : p.toNat < many g s u) : lkD (laidK g s u v) p = some (.lst (iL (colV g s u v p.toNat))) := by
  rw [laidK_map]
  exact lk_map (List.mem_map.mpr ⟨p.toNat, List.mem_range.mpr h, by omega⟩)
theorem laidK_has {g s u : Nat} {v : List Int} {p : Int} (h0 : 0 ≤ p) (h : p.toNat < many g s u) : hasK (laidK g s u v) p = true := by rw [hasK_lk, laidK_lk h0 h]; rfl
theorem take_spot {g s : Nat} (g0 : 1 ≤ g) (s0 : 1 ≤ s) {m : Nat} {p : Int} (h : p ∈ (dataP g s).take m) : ∃ k : Nat, k < m ∧ spotI g s (k : Int) = p := by
  obtain ⟨j, hj, rfl⟩ := List.getElem_of_mem h
  rw [List.length_take, dataP_len'] at hj
  have gsi : (g : Int) * (s : Int) = ((g * s : Nat) : Int) := by push_cast; rfl
  refine ⟨j, by omega, ?_⟩
  have em : ((j : Int) % ((g : Int) * (s : Int))).toNat = j := by
    rw [gsi]
    have q2 : ((j : Int) % ((g * s : Nat) : Int)) = ((j % (g * s) : Nat) : Int) := by push_cast; rfl
    rw [q2, Int.toNat_natCast, Nat.mod_eq_of_lt (by omega)]
  unfold spotI
  rw [em, List.getElem_take, List.getD_eq_getElem?_getD, List.getElem?_eq_getElem (by rw [dataP_len']; omega)]
  rfl
theorem need_one {g s : Nat} (g0 : 1 ≤ g) (s0 : 1 ≤ s) (k : Int) : needV g s k (k + 1) = [spotI g s k] := sorted_ext (need_up ..) (List.pairwise_singleton _ _) fun p => by
  rw [need_mem g0 s0, List.mem_singleton]
  refine ⟨fun ⟨i, hi, e⟩ => ?_, fun e => ⟨0, by omega, by rw [e]; simp⟩⟩
  have hi : i = 0 := by omega
  subst hi
  rw [← e]
  simp

theorem getD_bdF {v : List Int} (h : ∀ x ∈ v, 0 ≤ x ∧ x < 97) (i : Nat) : 0 ≤ v.getD i 0 ∧ v.getD i 0 < 97 := by
  rw [List.getD_eq_getElem?_getD]
  cases e : v[i]? with
  | none => exact ⟨by decide, by decide⟩
  | some n => exact h n (List.mem_of_getElem? e)
theorem fillV_bdF {g s u : Nat} {data : List Int} (h : ∀ x ∈ data, 0 ≤ x ∧ x < 97) : ∀ x ∈ fillV g s u data, 0 ≤ x ∧ x < 97 := by
  intro x hx
  obtain ⟨p, _, rfl⟩ := List.mem_map.mp hx
  unfold fillF
  split
  · split
    · exact ⟨Int.emod_nonneg _ (by decide), Int.emod_lt_of_pos _ (by decide)⟩
    · exact getD_bdF h _
  · exact ⟨Int.emod_nonneg _ (by decide), Int.emod_lt_of_pos _ (by decide)⟩

structure Txt (K : PySem.W.Frag) (mg : Str → Option Value) where
  t_MARKS : Addr
  c_MARKS : mg "MARKS" = some (.ref t_MARKS)
  p_MARKS : ∀ H : Hp, Rp K H (.ref t_MARKS) (.tup [.int 1, .int 11, .int 40, .int 30])
  q_MARKS : ∀ H : Hp, RpA K H [.ref t_MARKS] [.tup [.int 1, .int 11, .int 40, .int 30]]
  t_PLAIN : Addr
  c_PLAIN : mg "PLAIN" = some (.ref t_PLAIN)
  p_PLAIN : ∀ H : Hp, Rp K H (.ref t_PLAIN) (.tup [.int 2, .int 3, .int 2])
  q_PLAIN : ∀ H : Hp, RpA K H [.ref t_PLAIN] [.tup [.int 2, .int 3, .int 2]]
  f_plus : Addr
  fd_plus : FuncData
  F_plus : Fun K "plus" "plus" s_plus f_plus fd_plus
  g_plus : mg "plus" = some (.ref f_plus)
  k_plus : PySem.W.keepIn K (.ref f_plus) = true
  b_plus : Kb K fd_plus ["one", "other"] 2 [] (fun vs _ => vs)
  f_minus : Addr
  fd_minus : FuncData
  F_minus : Fun K "minus" "minus" s_minus f_minus fd_minus
  g_minus : mg "minus" = some (.ref f_minus)
  k_minus : PySem.W.keepIn K (.ref f_minus) = true
  b_minus : Kb K fd_minus ["one", "other"] 2 [] (fun vs _ => vs)
  f_times : Addr
  fd_times : FuncData
  F_times : Fun K "times" "times" s_times f_times fd_times
  g_times : mg "times" = some (.ref f_times)
  k_times : PySem.W.keepIn K (.ref f_times) = true
  b_times : Kb K fd_times ["one", "other"] 2 [] (fun vs _ => vs)
  f_power : Addr
  fd_power : FuncData
  F_power : Fun K "power" "power" s_power f_power fd_power
  g_power : mg "power" = some (.ref f_power)
  k_power : PySem.W.keepIn K (.ref f_power) = true
  b_power : Kb K fd_power ["one", "many"] 2 [] (fun vs _ => vs)
  f_is_whole : Addr
  fd_is_whole : FuncData
  F_is_whole : Fun K "is_whole" "is_whole" s_is_whole f_is_whole fd_is_whole
  g_is_whole : mg "is_whole" = some (.ref f_is_whole)
  k_is_whole : PySem.W.keepIn K (.ref f_is_whole) = true
  b_is_whole : Kb K fd_is_whole ["thing"] 1 [] (fun vs _ => vs)
  f_is_number : Addr
  fd_is_number : FuncData
  F_is_number : Fun K "is_number" "is_number" s_is_number f_is_number fd_is_number
  g_is_number : mg "is_number" = some (.ref f_is_number)
  k_is_number : PySem.W.keepIn K (.ref f_is_number) = true
  b_is_number : Kb K fd_is_number ["thing"] 1 [] (fun vs _ => vs)
  f_is_shape : Addr
  fd_is_shape : FuncData
  F_is_shape : Fun K "is_shape" "is_shape" s_is_shape f_is_shape fd_is_shape
  g_is_shape : mg "is_shape" = some (.ref f_is_shape)
  k_is_shape : PySem.W.keepIn K (.ref f_is_shape) = true
  b_is_shape : Kb K fd_is_shape ["thing"] 1 [] (fun vs _ => vs)
  f_need_shape : Addr
  fd_need_shape : FuncData
  F_need_shape : Fun K "need_shape" "need_shape" s_need_shape f_need_shape fd_need_shape
  g_need_shape : mg "need_shape" = some (.ref f_need_shape)
  k_need_shape : PySem.W.keepIn K (.ref f_need_shape) = true
  b_need_shape : Kb K fd_need_shape ["thing"] 1 [] (fun vs _ => vs)
  f_count : Addr
  fd_count : FuncData
  F_count : FunD K "count" "count" (defArgs s_count) (defBody s_count) (defScope s_count) [] [("shape", .ref t_PLAIN)] f_count fd_count
  g_count : mg "count" = some (.ref f_count)
  k_count : PySem.W.keepIn K (.ref f_count) = true
  b_count_0_shape : Kb K fd_count ["shape"] 0 ["shape"] (fun vs zs => vs ++ zs)
  f_is_place : Addr
  fd_is_place : FuncData
  F_is_place : Fun K "is_place" "is_place" s_is_place f_is_place fd_is_place
  g_is_place : mg "is_place" = some (.ref f_is_place)
  k_is_place : PySem.W.keepIn K (.ref f_is_place) = true
  b_is_place : Kb K fd_is_place ["thing", "shape"] 2 [] (fun vs _ => vs)
  f_need_places : Addr
  fd_need_places : FuncData
  F_need_places : Fun K "need_places" "need_places" s_need_places f_need_places fd_need_places
  g_need_places : mg "need_places" = some (.ref f_need_places)
  k_need_places : PySem.W.keepIn K (.ref f_need_places) = true
  b_need_places : Kb K fd_need_places ["things", "shape"] 2 [] (fun vs _ => vs)
  f_data_places : Addr
  fd_data_places : FuncData
  F_data_places : FunD K "data_places" "data_places" (defArgs s_data_places) (defBody s_data_places) (defScope s_data_places) [] [("shape", .ref t_PLAIN)] f_data_places fd_data_places
  g_data_places : mg "data_places" = some (.ref f_data_places)
  k_data_places : PySem.W.keepIn K (.ref f_data_places) = true
  b_data_places_0_shape : Kb K fd_data_places ["shape"] 0 ["shape"] (fun vs zs => vs ++ zs)
  f_kind_of : Addr
  fd_kind_of : FuncData
  F_kind_of : FunD K "kind_of" "kind_of" (defArgs s_kind_of) (defBody s_kind_of) (defScope s_kind_of) [] [("shape", .ref t_PLAIN)] f_kind_of fd_kind_of
  g_kind_of : mg "kind_of" = some (.ref f_kind_of)
  k_kind_of : PySem.W.keepIn K (.ref f_kind_of) = true
  b_kind_of_1_shape : Kb K fd_kind_of ["place", "shape"] 1 ["shape"] (fun vs zs => vs ++ zs)
  f_mark : Addr
  fd_mark : FuncData
  F_mark : FunD K "mark" "mark" (defArgs s_mark) (defBody s_mark) (defScope s_mark) [] [("shape", .ref t_PLAIN)] f_mark fd_mark
  g_mark : mg "mark" = some (.ref f_mark)
  k_mark : PySem.W.keepIn K (.ref f_mark) = true
  b_mark_1_shape : Kb K fd_mark ["place", "shape"] 1 ["shape"] (fun vs zs => vs ++ zs)
  f_local_check : Addr
  fd_local_check : FuncData
  F_local_check : Fun K "local_check" "local_check" s_local_check f_local_check fd_local_check
  g_local_check : mg "local_check" = some (.ref f_local_check)
  k_local_check : PySem.W.keepIn K (.ref f_local_check) = true
  b_local_check : Kb K fd_local_check ["group", "shape"] 2 [] (fun vs _ => vs)
  f_over_check : Addr
  fd_over_check : FuncData
  F_over_check : Fun K "over_check" "over_check" s_over_check f_over_check fd_over_check
  g_over_check : mg "over_check" = some (.ref f_over_check)
  k_over_check : PySem.W.keepIn K (.ref f_over_check) = true
  b_over_check : Kb K fd_over_check ["number", "shape"] 2 [] (fun vs _ => vs)
  f_checks : Addr
  fd_checks : FuncData
  F_checks : FunD K "checks" "checks" (defArgs s_checks) (defBody s_checks) (defScope s_checks) [] [("shape", .ref t_PLAIN)] f_checks fd_checks
  g_checks : mg "checks" = some (.ref f_checks)
  k_checks : PySem.W.keepIn K (.ref f_checks) = true
  b_checks_0_shape : Kb K fd_checks ["shape"] 0 ["shape"] (fun vs zs => vs ++ zs)
  f_filled : Addr
  fd_filled : FuncData
  F_filled : Fun K "filled" "filled" s_filled f_filled fd_filled
  g_filled : mg "filled" = some (.ref f_filled)
  k_filled : PySem.W.keepIn K (.ref f_filled) = true
  b_filled : Kb K fd_filled ["data", "shape"] 2 [] (fun vs _ => vs)
  f_is_filling : Addr
  fd_is_filling : FuncData
  F_is_filling : FunD K "is_filling" "is_filling" (defArgs s_is_filling) (defBody s_is_filling) (defScope s_is_filling) [] [("shape", .ref t_PLAIN)] f_is_filling fd_is_filling
  g_is_filling : mg "is_filling" = some (.ref f_is_filling)
  k_is_filling : PySem.W.keepIn K (.ref f_is_filling) = true
  b_is_filling_1_shape : Kb K fd_is_filling ["thing", "shape"] 1 ["shape"] (fun vs zs => vs ++ zs)
  f_need_row : Addr
  fd_need_row : FuncData
  F_need_row : Fun K "need_row" "need_row" s_need_row f_need_row fd_need_row
  g_need_row : mg "need_row" = some (.ref f_need_row)
  k_need_row : PySem.W.keepIn K (.ref f_need_row) = true
  b_need_row : Kb K fd_need_row ["thing"] 1 [] (fun vs _ => vs)
  f_cells_for : Addr
  fd_cells_for : FuncData
  F_cells_for : FunD K "cells_for" "cells_for" (defArgs s_cells_for) (defBody s_cells_for) (defScope s_cells_for) [] [("shape", .ref t_PLAIN)] f_cells_for fd_cells_for
  g_cells_for : mg "cells_for" = some (.ref f_cells_for)
  k_cells_for : PySem.W.keepIn K (.ref f_cells_for) = true
  b_cells_for_1_shape : Kb K fd_cells_for ["many", "shape"] 1 ["shape"] (fun vs zs => vs ++ zs)
  f_laid : Addr
  fd_laid : FuncData
  F_laid : FunD K "laid" "laid" (defArgs s_laid) (defBody s_laid) (defScope s_laid) [] [("shape", .ref t_PLAIN)] f_laid fd_laid
  g_laid : mg "laid" = some (.ref f_laid)
  k_laid : PySem.W.keepIn K (.ref f_laid) = true
  b_laid_1_shape : Kb K fd_laid ["row", "shape"] 1 ["shape"] (fun vs zs => vs ++ zs)
  f_unlaid : Addr
  fd_unlaid : FuncData
  F_unlaid : FunD K "unlaid" "unlaid" (defArgs s_unlaid) (defBody s_unlaid) (defScope s_unlaid) [] [("shape", .ref t_PLAIN)] f_unlaid fd_unlaid
  g_unlaid : mg "unlaid" = some (.ref f_unlaid)
  k_unlaid : PySem.W.keepIn K (.ref f_unlaid) = true
  b_unlaid_2_shape : Kb K fd_unlaid ["pieces", "many", "shape"] 2 ["shape"] (fun vs zs => vs ++ zs)
  f_needed : Addr
  fd_needed : FuncData
  F_needed : FunD K "needed" "needed" (defArgs s_needed) (defBody s_needed) (defScope s_needed) [] [("shape", .ref t_PLAIN)] f_needed fd_needed
  g_needed : mg "needed" = some (.ref f_needed)
  k_needed : PySem.W.keepIn K (.ref f_needed) = true
  b_needed_2_shape : Kb K fd_needed ["first", "behind", "shape"] 2 ["shape"] (fun vs zs => vs ++ zs)
  f__law_purse : Addr
  fd__law_purse : FuncData
  F__law_purse : Fun K "_law_purse" "_law_purse" s__law_purse f__law_purse fd__law_purse
  g__law_purse : mg "_law_purse" = some (.ref f__law_purse)
  k__law_purse : PySem.W.keepIn K (.ref f__law_purse) = true
  b__law_purse : Kb K fd__law_purse ["script", "k"] 2 [] (fun vs _ => vs)
  f__law_drawn : Addr
  fd__law_drawn : FuncData
  F__law_drawn : Fun K "_law_drawn" "_law_drawn" s__law_drawn f__law_drawn fd__law_drawn
  g__law_drawn : mg "_law_drawn" = some (.ref f__law_drawn)
  k__law_drawn : PySem.W.keepIn K (.ref f__law_drawn) = true
  b__law_drawn : Kb K fd__law_drawn ["purse", "many"] 2 [] (fun vs _ => vs)
  f__law_shape : Addr
  fd__law_shape : FuncData
  F__law_shape : Fun K "_law_shape" "_law_shape" s__law_shape f__law_shape fd__law_shape
  g__law_shape : mg "_law_shape" = some (.ref f__law_shape)
  k__law_shape : PySem.W.keepIn K (.ref f__law_shape) = true
  b__law_shape : Kb K fd__law_shape ["purse", "most"] 2 [] (fun vs _ => vs)
  f__law_row : Addr
  fd__law_row : FuncData
  F__law_row : Fun K "_law_row" "_law_row" s__law_row f__law_row fd__law_row
  g__law_row : mg "_law_row" = some (.ref f__law_row)
  k__law_row : PySem.W.keepIn K (.ref f__law_row) = true
  b__law_row : Kb K fd__law_row ["purse", "most"] 2 [] (fun vs _ => vs)
  f__law_read_back : Addr
  fd__law_read_back : FuncData
  F__law_read_back : Fun K "_law_read_back" "_law_read_back" s__law_read_back f__law_read_back fd__law_read_back
  g__law_read_back : mg "_law_read_back" = some (.ref f__law_read_back)
  k__law_read_back : PySem.W.keepIn K (.ref f__law_read_back) = true
  b__law_read_back : Kb K fd__law_read_back ["row", "mould"] 2 [] (fun vs _ => vs)
  f__law_steps : Addr
  fd__law_steps : FuncData
  F__law_steps : Fun K "_law_steps" "_law_steps" s__law_steps f__law_steps fd__law_steps
  g__law_steps : mg "_law_steps" = some (.ref f__law_steps)
  k__law_steps : PySem.W.keepIn K (.ref f__law_steps) = true
  b__law_steps : Kb K fd__law_steps ["mould", "own", "step"] 3 [] (fun vs _ => vs)
  f__law_changes : Addr
  fd__law_changes : FuncData
  F__law_changes : Fun K "_law_changes" "_law_changes" s__law_changes f__law_changes fd__law_changes
  g__law_changes : mg "_law_changes" = some (.ref f__law_changes)
  k__law_changes : PySem.W.keepIn K (.ref f__law_changes) = true
  b__law_changes : Kb K fd__law_changes ["mould", "ones", "others", "at", "steps"] 5 [] (fun vs _ => vs)
  f_law : Addr
  fd_law : FuncData
  F_law : Fun K "law" "law" s_law f_law fd_law
  g_law : mg "law" = some (.ref f_law)
  k_law : PySem.W.keepIn K (.ref f_law) = true
  b_law : Kb K fd_law ["script"] 1 [] (fun vs _ => vs)
  t_PRIME : Tok
  c_PRIME : mg "PRIME" = some (.int 97 t_PRIME)
  t_MOST_SIZE : Tok
  c_MOST_SIZE : mg "MOST_SIZE" = some (.int 4 t_MOST_SIZE)
  t_MOST_SUMS : Tok
  c_MOST_SUMS : mg "MOST_SUMS" = some (.int 2 t_MOST_SUMS)
  t_MOST : Tok
  c_MOST : mg "MOST" = some (.int 60 t_MOST)
  t_NoPlace : Addr
  g_NoPlace : mg "NoPlace" = some (.ref t_NoPlace)
  yN_NoPlace : PySem.W.kitOne K (.type "NoneType") (.ref t_NoPlace) = some false
  t_NoRow : Addr
  g_NoRow : mg "NoRow" = some (.ref t_NoRow)
  yN_NoRow : PySem.W.kitOne K (.type "NoneType") (.ref t_NoRow) = some false
  t_NoShape : Addr
  g_NoShape : mg "NoShape" = some (.ref t_NoShape)
  yN_NoShape : PySem.W.kitOne K (.type "NoneType") (.ref t_NoShape) = some false
  fI_NoPlace : Addr
  fdI_NoPlace : FuncData
  o_NoPlace : OexC K t_NoPlace
  e_NoPlace : ExcC K t_NoPlace
  n_NoPlace : PySem.W.findIn K (.ref t_NoPlace) "place" = some none
  i_NoPlace : PySem.W.findIn K (.ref t_NoPlace) "__init__" = some (some (.ref fI_NoPlace))
  tI_NoPlace : PySem.W.typeIn K (.ref fI_NoPlace) = some (.type "function")
  FI_NoPlace : Fun K "__init__" "NoPlace.__init__" s_NoPlace_init fI_NoPlace fdI_NoPlace
  bI_NoPlace : Binds K fdI_NoPlace ["self", "place"] []
  y_NoPlace_NoPlace : PySem.W.kitOne K (.ref t_NoPlace) (.ref t_NoPlace) = some true
  y_NoPlace_NoRow : PySem.W.kitOne K (.ref t_NoPlace) (.ref t_NoRow) = some false
  y_NoPlace_NoShape : PySem.W.kitOne K (.ref t_NoPlace) (.ref t_NoShape) = some false
  fI_NoRow : Addr
  fdI_NoRow : FuncData
  o_NoRow : OexC K t_NoRow
  e_NoRow : ExcC K t_NoRow
  n_NoRow : PySem.W.findIn K (.ref t_NoRow) "at" = some none
  i_NoRow : PySem.W.findIn K (.ref t_NoRow) "__init__" = some (some (.ref fI_NoRow))
  tI_NoRow : PySem.W.typeIn K (.ref fI_NoRow) = some (.type "function")
  FI_NoRow : Fun K "__init__" "NoRow.__init__" s_NoRow_init fI_NoRow fdI_NoRow
  bI_NoRow : Binds K fdI_NoRow ["self", "at"] []
  y_NoRow_NoPlace : PySem.W.kitOne K (.ref t_NoRow) (.ref t_NoPlace) = some false
  y_NoRow_NoRow : PySem.W.kitOne K (.ref t_NoRow) (.ref t_NoRow) = some true
  y_NoRow_NoShape : PySem.W.kitOne K (.ref t_NoRow) (.ref t_NoShape) = some false
  fI_NoShape : Addr
  fdI_NoShape : FuncData
  o_NoShape : OexC K t_NoShape
  e_NoShape : ExcC K t_NoShape
  n_NoShape : PySem.W.findIn K (.ref t_NoShape) "shape" = some none
  i_NoShape : PySem.W.findIn K (.ref t_NoShape) "__init__" = some (some (.ref fI_NoShape))
  tI_NoShape : PySem.W.typeIn K (.ref fI_NoShape) = some (.type "function")
  FI_NoShape : Fun K "__init__" "NoShape.__init__" s_NoShape_init fI_NoShape fdI_NoShape
  bI_NoShape : Binds K fdI_NoShape ["self", "shape"] []
  y_NoShape_NoPlace : PySem.W.kitOne K (.ref t_NoShape) (.ref t_NoPlace) = some false
  y_NoShape_NoRow : PySem.W.kitOne K (.ref t_NoShape) (.ref t_NoRow) = some false
  y_NoShape_NoShape : PySem.W.kitOne K (.ref t_NoShape) (.ref t_NoShape) = some true
  b_all : mg "all" = none
  b_bool : mg "bool" = none
  b_divmod : mg "divmod" = none
  b_enumerate : mg "enumerate" = none
  b_int : mg "int" = none
  b_isinstance : mg "isinstance" = none
  b_len : mg "len" = none
  b_list : mg "list" = none
  b_max : mg "max" = none
  b_min : mg "min" = none
  b_range : mg "range" = none
  b_sorted : mg "sorted" = none
  b_sum : mg "sum" = none
  b_tuple : mg "tuple" = none
  b_zip : mg "zip" = none
section
variable {P : Program} {w : World} {K : PySem.W.Frag} {mg : Str → Option Value} {base : Heap}
theorem x_NoPlace (T : Txt K mg) : Ex1 P w K mg base T.t_NoPlace T.fI_NoPlace T.fdI_NoPlace "place" := ⟨T.o_NoPlace, T.n_NoPlace, T.i_NoPlace, T.tI_NoPlace, T.bI_NoPlace, init1_fn T.FI_NoPlace sc_NoPlace_init fun cdv A outer s H E => pss_one (ps_ost (pv 0) (pv 1))⟩
theorem x_NoRow (T : Txt K mg) : Ex1 P w K mg base T.t_NoRow T.fI_NoRow T.fdI_NoRow "at" := ⟨T.o_NoRow, T.n_NoRow, T.i_NoRow, T.tI_NoRow, T.bI_NoRow, init1_fn T.FI_NoRow sc_NoRow_init fun cdv A outer s H E => pss_one (ps_ost (pv 0) (pv 1))⟩
theorem x_NoShape (T : Txt K mg) : Ex1 P w K mg base T.t_NoShape T.fI_NoShape T.fdI_NoShape "shape" := ⟨T.o_NoShape, T.n_NoShape, T.i_NoShape, T.tI_NoShape, T.bI_NoShape, init1_fn T.FI_NoShape sc_NoShape_init fun cdv A outer s H E => pss_one (ps_ost (pv 0) (pv 1))⟩
def fd_plus : Fd := { n := 2, dom := fun ds => ∃ i j : Int, ds = [.int i, .int j], res := fun ds d => ∃ i j : Int, ds = [.int i, .int j] ∧ d = .int ((i + j) % 97) }
theorem cl_plus {i j : Int} : Cal fd_plus [.int i, .int j] (.int ((i + j) % 97)) := ⟨rfl, ⟨i, j, rfl⟩, rfl, fun d ⟨i', n', e, q⟩ => by cases e; exact q, fun _ _ q => q⟩
local macro_rules | `(tactic| walk_at "cal") => `(tactic| exact cl_plus)
theorem ok_plus (T : Txt K mg) : FnOk P w K mg base (L2.CX P w) 1 T.f_plus T.fd_plus ["one", "other"] (SpD K fd_plus) := by
  refine fn_data (dvs := []) (kws := []) (N := N_plus) (.inr T.F_plus) sc_plus rfl (fun cdv A outer s H E hr tk => ?_)
  refine ⟨_, (pss_one (ps_ret (pe_op g_mod (pe_op (g_add (K := K) rfl) (pv 0) (pv 1)) (pe_glob (v := .int 97) rfl T.c_PRIME ⟨_, rfl⟩)))), fun ds N' b hl hd acc => ?_⟩
  obtain ⟨i, j, rfl⟩ := hd
  refine w_ret (by walk_at "ev") ?_
  exact ⟨by walk_at "b", i, j, rfl, rfl⟩

def fd_minus : Fd := { n := 2, dom := fun ds => ∃ i j : Int, ds = [.int i, .int j], res := fun ds d => ∃ i j : Int, ds = [.int i, .int j] ∧ d = .int ((i - j) % 97) }
theorem cl_minus {i j : Int} : Cal fd_minus [.int i, .int j] (.int ((i - j) % 97)) := ⟨rfl, ⟨i, j, rfl⟩, rfl, fun d ⟨i', n', e, q⟩ => by cases e; exact q, fun _ _ q => q⟩
local macro_rules | `(tactic| walk_at "cal") => `(tactic| exact cl_minus)
theorem ok_minus (T : Txt K mg) : FnOk P w K mg base (L2.CX P w) 1 T.f_minus T.fd_minus ["one", "other"] (SpD K fd_minus) := by
  refine fn_data (dvs := []) (kws := []) (N := N_minus) (.inr T.F_minus) sc_minus rfl (fun cdv A outer s H E hr tk => ?_)
  refine ⟨_, (pss_one (ps_ret (pe_op g_mod (pe_op g_sub (pv 0) (pv 1)) (pe_glob (v := .int 97) rfl T.c_PRIME ⟨_, rfl⟩)))), fun ds N' b hl hd acc => ?_⟩
  obtain ⟨i, j, rfl⟩ := hd
  refine w_ret (by walk_at "ev") ?_
  exact ⟨by walk_at "b", i, j, rfl, rfl⟩

def fd_times : Fd := { n := 2, dom := fun ds => ∃ i j : Int, ds = [.int i, .int j] ∧ CMulW i j, res := fun ds d => ∃ i j : Int, ds = [.int i, .int j] ∧ d = .int ((i * j) % 97) }
theorem cl_times {i j : Int} (h : CMulW i j) : Cal fd_times [.int i, .int j] (.int (i * j % 97)) := ⟨rfl, ⟨i, j, rfl, h⟩, rfl, fun d ⟨i', n', e, q⟩ => by cases e; exact q, fun _ _ q => q⟩
local macro_rules | `(tactic| walk_at "cal") => `(tactic| (apply cl_times; first | assumption | walk_at "mul"))
theorem ok_times (T : Txt K mg) : FnOk P w K mg base (L2.CX P w) 1 T.f_times T.fd_times ["one", "other"] (SpD K fd_times) := by
  refine fn_data (dvs := []) (kws := []) (N := N_times) (.inr T.F_times) sc_times rfl (fun cdv A outer s H E hr tk => ?_)
  refine ⟨_, (pss_one (ps_ret (pe_op g_mod (pe_op g_mul (pv 0) (pv 1)) (pe_glob (v := .int 97) rfl T.c_PRIME ⟨_, rfl⟩)))), fun ds N' b hl hd acc => ?_⟩
  obtain ⟨i, j, rfl, hm⟩ := hd
  refine w_ret (by walk_at "ev") ?_
  exact ⟨by walk_at "b", i, j, rfl, rfl⟩

def pw (i : Int) (n : Nat) : Int := i ^ n % 97
theorem pw_step (f bs n r : Int) (h0 : 0 < n) (h : (f * bs ^ n.toNat) % 97 = r) :
    ((if decide (n % 2 = 1) = true then f * bs % 97 else f) * (bs * bs % 97) ^ (n / 2).toNat) % 97 = r := by
  have e : n.toNat = 2 * (n / 2).toNat + (n % 2).toNat := by omega
  have hp : ∀ (k : Nat) (x : Int), ((x * x % 97) ^ k) % 97 = (x ^ (2 * k)) % 97 := fun k x => by
    have h1 : ∀ (y : Int) (k : Nat), ((y % 97) ^ k) % 97 = (y ^ k) % 97 := fun y k => by
      induction k with
      | zero => rw [Int.pow_zero, Int.pow_zero]
      | succ k ih => rw [Int.pow_succ, Int.pow_succ, Int.mul_emod, ih, Int.emod_emod_of_dvd _ (Int.dvd_refl 97), ← Int.mul_emod]
    rw [h1, Int.pow_mul]
    congr 1
    congr 1
    rw [Int.pow_succ, Int.pow_succ, Int.pow_zero, Int.one_mul]
  rw [← h, e]
  split
  · rename_i hc
    have hc := of_decide_eq_true hc
    rw [Int.mul_emod, hp, Int.emod_emod_of_dvd _ (Int.dvd_refl 97), ← Int.mul_emod, hc, show (1 : Int).toNat = 1 from rfl, Int.pow_succ]
    congr 1
    rw [Int.mul_assoc, Int.mul_comm bs]
  · rename_i hc
    have hc : ¬ n % 2 = 1 := fun z => hc (decide_eq_true z)
    have h0 : n % 2 = 0 := by omega
    rw [Int.mul_emod, hp, ← Int.mul_emod, h0, show (0 : Int).toNat = 0 from rfl, Nat.add_zero]
def fd_power : Fd := { n := 2, dom := fun ds => ∃ i n : Int, ds = [.int i, .int n] ∧ 0 ≤ n, res := fun ds d => ∃ i n : Int, ds = [.int i, .int n] ∧ d = .int (pw i n.toNat) }
theorem cl_power {i n : Int} (h : 0 ≤ n) : Cal fd_power [.int i, .int n] (.int (pw i n.toNat)) := ⟨rfl, ⟨i, n, rfl, h⟩, rfl, fun d ⟨i', n', e, q⟩ => by cases e; exact q, fun _ _ q => q⟩
local macro_rules | `(tactic| walk_at "cal") => `(tactic| (apply cl_power; first | omega | decide | skip))
theorem ok_power (T : Txt K mg) : FnOk P w K mg base (L2.CX P w) 1 T.f_power T.fd_power ["one", "many"] (SpD K fd_power) := by
  refine fn_data (dvs := []) (kws := []) (N := N_power) (.inr T.F_power) sc_power rfl (fun cdv A outer s H E hr tk => ?_)
  refine ⟨_, (pss_cons (ps_set (i := 2) sc_power.nd rfl (Or.inl rfl) pe_int)
      (pss_cons (ps_set (i := 3) sc_power.nd rfl (Or.inl rfl) (pe_op g_mod (pv 0) (pe_glob (v := .int 97) rfl T.c_PRIME ⟨_, rfl⟩)))
      (pss_cons (ps_while (passes_of rfl) (pt_cmpR g_gt (pv 1) pe_int (nomark _)) (pss_cons (ps_asg (pe_callB g_divmod rfl T.b_divmod boot_divmod (pa_cons (pv 1) (pa_cons pe_int pa_nil))) (g_tup (K := K) (n := 2) rfl rfl (pgs_cons (pg_name (i := 1) sc_power.nd rfl (Or.inl rfl)) (pgs_cons (pg_name (i := 4) sc_power.nd rfl (Or.inl rfl)) pgs_nil))))
      (pss_cons (ps_if (pt_cmpR (g_eq (K := K) rfl hr) (pv 4) pe_int (nomark _)) (pss_one (ps_set (i := 2) sc_power.nd rfl (Or.inl rfl) (pe_op g_mod (pe_op g_mul (pv 2) (pv 3)) (pe_glob (v := .int 97) rfl T.c_PRIME ⟨_, rfl⟩)))) pss_nil)
      (pss_one (ps_set (i := 3) sc_power.nd rfl (Or.inl rfl) (pe_op g_mod (pe_op g_mul (pv 3) (pv 3)) (pe_glob (v := .int 97) rfl T.c_PRIME ⟨_, rfl⟩)))))))
      (pss_one (ps_ret (pv 2)))))), fun ds N' b hl hd acc => ?_⟩
  obtain ⟨i, n, rfl, hn⟩ := hd
  refine w_seq (w_asg (by walk_at "ev") (w_seq (w_asg (by walk_at "ev") (w_seq ?_))))
  refine w_while (fun m ds b' => ∃ (n' f bs : Int) (so : Sd), ds = [.dat (.int i), .dat (.int n'), .dat (.int f), .dat (.int bs), so] ∧ 0 ≤ n' ∧ m = n'.toNat ∧ (0 ≤ f ∧ f < 97) ∧ (0 ≤ bs ∧ bs < 97) ∧ (f * bs ^ n'.toNat) % 97 = pw i n.toNat ∧ b ≤ b') n.toNat ⟨n, 1, i % 97, .un, rfl, hn, rfl, by omega, by omega, ?_, by walk_at "b"⟩ ?_
  · have h1 : ∀ (y : Int) (k : Nat), ((y % 97) ^ k) % 97 = (y ^ k) % 97 := fun y k => by
      induction k with
      | zero => rw [Int.pow_zero, Int.pow_zero]
      | succ k ih => rw [Int.pow_succ, Int.pow_succ, Int.mul_emod, ih, Int.emod_emod_of_dvd _ (Int.dvd_refl 97), ← Int.mul_emod]
    rw [Int.one_mul]
    exact h1 _ _
  rintro m ds' b' ⟨n', f, bs, so, rfl, h0, rfl, hf, hb, he, hbb⟩
  refine ⟨_, by walk_at "ev", fun hc => ?_, fun hc => ?_⟩
  · have hc := of_decide_eq_true hc
    have st := pw_step f bs n' _ hc he
    refine w_seq (w_tg (by walk_at "ev") (by walk_at "tg") ?_)
    refine w_seq (w_if (by walk_at "ev") (fun h => ?_) (fun h => ?_))
    · refine w_asg (by walk_at "ev") ?_
      refine w_asg (by walk_at "ev") ?_
      rw [if_pos h] at st
      exact ⟨(n' / 2).toNat, by omega, n' / 2, _, _, _, rfl, by omega, rfl, by omega, by omega, st, hbb⟩
    · refine w_next ?_
      refine w_asg (by walk_at "ev") ?_
      rw [if_neg (by rw [h]; exact Bool.false_ne_true)] at st
      exact ⟨(n' / 2).toNat, by omega, n' / 2, _, _, _, rfl, by omega, rfl, by omega, by omega, st, hbb⟩
  · have hc := of_decide_eq_false hc
    have e : n' = 0 := by omega
    subst e
    refine w_ret (by walk_at "ev") ⟨hbb, i, n, rfl, ?_⟩
    rw [show (0 : Int).toNat = 0 from rfl, Int.pow_zero, Int.mul_one] at he
    rw [← he]
    congr 1
    omega

def fd_is_whole : Fd := { n := 1, dom := fun ds => ∃ d : D, ds = [d] ∧ plainK d = true, res := fun ds r => ∃ d : D, ds = [d] ∧ r = .bl (isI d) }
theorem cl_is_wholeD {d : D} (h : plainK d = true) : Cal fd_is_whole [d] (.bl (isI d)) := ⟨rfl, ⟨d, rfl, h⟩, rfl, fun r ⟨d', e, q⟩ => by cases e; exact q, fun _ _ q => q⟩
theorem cl_is_whole {i : Int} : Cal fd_is_whole [.int i] (.bl true) := cl_is_wholeD (d := .int i) rfl
local macro_rules | `(tactic| walk_at "cal") => `(tactic| first | exact cl_is_whole | (apply cl_is_wholeD; first | assumption | skip))
theorem ok_is_whole (T : Txt K mg) : FnOk P w K mg base (L2.CX P w) 1 T.f_is_whole T.fd_is_whole ["thing"] (SpD K fd_is_whole) := by
  refine fn_data (dvs := []) (kws := []) (N := N_is_whole) (.inr T.F_is_whole) sc_is_whole rfl (fun cdv A outer s H E hr tk => ?_)
  refine ⟨_, (pss_one (ps_ret (pe_and (pe_callB (g_isi (K := K) rfl) rfl T.b_isinstance boot_isinstance (pa_cons (pv 0) (pa_cons (pe_bltn (v := .ty "int") rfl T.b_int boot_int rfl) pa_nil))) (pe_one (pe_not (pe_callB (g_isi (K := K) rfl) rfl T.b_isinstance boot_isinstance (pa_cons (pv 0) (pa_cons (pe_bltn (v := .ty "bool") rfl T.b_bool boot_bool rfl) pa_nil)))))))), fun ds N' b hl hd acc => ?_⟩
  obtain ⟨d, rfl, hk⟩ := hd
  cases d with
  | non => exact w_ret (d := .bl false) (EvD.eq (by walk_at "ev") (by rfl)) ⟨by walk_at "b", _, rfl, rfl⟩
  | bl c => exact w_ret (d := .bl false) (EvD.eq (by walk_at "ev") (by rfl)) ⟨by walk_at "b", _, rfl, rfl⟩
  | int c => exact w_ret (d := .bl true) (EvD.eq (by walk_at "ev") (by rfl)) ⟨by walk_at "b", _, rfl, rfl⟩
  | str c => exact w_ret (d := .bl false) (EvD.eq (by walk_at "ev") (by rfl)) ⟨by walk_at "b", _, rfl, rfl⟩
  | lst c => exact w_ret (d := .bl false) (EvD.eq (by walk_at "ev") (by rfl)) ⟨by walk_at "b", _, rfl, rfl⟩
  | tup c => exact w_ret (d := .bl false) (EvD.eq (by walk_at "ev") (by rfl)) ⟨by walk_at "b", _, rfl, rfl⟩
  | dct c => exact w_ret (d := .bl false) (EvD.eq (by walk_at "ev") (by rfl)) ⟨by walk_at "b", _, rfl, rfl⟩
  | _ => cases hk

def fd_is_number : Fd := { n := 1, dom := fun ds => ∃ d : D, ds = [d] ∧ plainK d = true, res := fun ds r => ∃ d : D, ds = [d] ∧ r = .bl (isNum d) }
theorem cl_is_number {d : D} (h : plainK d = true) : Cal fd_is_number [d] (.bl (isNum d)) := ⟨rfl, ⟨d, rfl, h⟩, rfl, fun r ⟨d', e, q⟩ => by cases e; exact q, fun _ _ q => q⟩
local macro_rules | `(tactic| walk_at "cal") => `(tactic| (apply cl_is_number; first | assumption | skip))
theorem ok_is_number (T : Txt K mg) : FnOk P w K mg base (L2.CX P w) 2 T.f_is_number T.fd_is_number ["thing"] (SpD K fd_is_number) := by
  refine fn_data (dvs := []) (kws := []) (N := N_is_number) (.inr T.F_is_number) sc_is_number rfl (fun cdv A outer s H E hr tk => ?_)
  refine ⟨_, (pss_one (ps_ret (pe_and (pe_cl (m := 0) (ok_is_whole T) (hr.mono (by decide)) rfl T.g_is_whole T.k_is_whole T.b_is_whole (passD tk) (pa_cons (pv 0) pa_nil) pk_nil) (pe_one (pe_chain g_le g_lt pe_int (pv 0) (pe_glob (v := .int 97) rfl T.c_PRIME ⟨_, rfl⟩)))))), fun ds N' b hl hd acc => ?_⟩
  obtain ⟨d, rfl, hk⟩ := hd
  cases d with
  | int c => exact w_ret (d := .bl (isNum (.int c))) (EvD.eq (by walk_at "ev") (by rfl)) ⟨by walk_at "b", _, rfl, rfl⟩
  | _ => first | exact w_ret (d := .bl false) (EvD.eq (ev_andV (c := false) (e := false) (ev_cal (ea_cons (by walk_at "ev") ea_nil) (cl_is_wholeD hk) rfl) fun h => nomatch h) (by rfl)) ⟨by walk_at "b", _, rfl, rfl⟩ | cases hk

--OPT tuples thing
def fd_is_shape : Fd := { n := 1, dom := fun ds => ∃ d : D, ds = [d] ∧ plainT d, res := fun ds r => ∃ d : D, ds = [d] ∧ r = .bl (isShape d) }
theorem cl_is_shapeD {d : D} (h : plainT d) : Cal fd_is_shape [d] (.bl (isShape d)) := ⟨rfl, ⟨d, rfl, h⟩, rfl, fun r ⟨d', e, q⟩ => by cases e; exact q, fun _ _ q => q⟩
theorem cl_is_shape {g s u : Int} (h : ShOk g s u) : Cal fd_is_shape [shD g s u] (.bl true) := by
  have q := cl_is_shapeD (plainT_sh g s u)
  rw [isShape_ok h] at q
  exact q
local macro_rules | `(tactic| walk_at "cal") => `(tactic| first | (apply cl_is_shape; assumption) | (apply cl_is_shapeD; first | assumption | skip))
theorem ok_is_shape (T : Txt K mg) : FnOk P w K mg base (L2.CX P w) 2 T.f_is_shape T.fd_is_shape ["thing"] (SpD K fd_is_shape) := by
  have kP_MARKS := T.p_MARKS
  have kD_MARKS := T.q_MARKS
  refine fn_data (dvs := []) (kws := []) (N := N_is_shape) (.inr T.F_is_shape) sc_is_shape rfl (fun cdv A outer s H E hr tk => ?_)
  refine ⟨_, (pss_cons (ps_if (PW.pt (pw_or (pt_not (g_tru (K := K) rfl (pe_callB (g_isi (K := K) rfl) rfl T.b_isinstance boot_isinstance (pa_cons (pv 0) (pa_cons (pe_bltn (v := .ty "tuple") rfl T.b_tuple boot_tuple rfl) pa_nil))) (fun _ => rfl))) (pw_or (pt_cmpR (g_ne (K := K) rfl hr) (pe_callB (g_len (K := K) rfl) rfl T.b_len boot_len (pa_cons (pv 0) pa_nil)) pe_int (nomark _)) (pw_or1 (pt_not (g_tru (K := K) rfl (pe_callB (g_all (K := K) rfl rfl) rfl T.b_all boot_all (pa_cons (pe_lc (own := [("one", 4)]) rfl sc_is_shape.nd (g_tuple (K := K) rfl (pv 0)) (blkOk_by (own := [("one", 4)]) (N := N_is_shape) (sc := defScope s_is_shape) (by decide +kernel)) (fun _ _ _ _ _ => (pg_name (i := 4) sc_is_shape.nd rfl (Or.inl rfl))) (fun _ _ _ _ _ => pts_nil) (fun _ _ _ _ _ => (pe_cl (m := 0) (ok_is_whole T) (hr.mono (by decide)) rfl T.g_is_whole T.k_is_whole T.b_is_whole pass_never (pa_cons (pv 4) pa_nil) pk_nil))) pa_nil)) (fun _ => rfl))))))) (pss_one (ps_ret pe_bl)) pss_nil)
      (pss_cons (ps_asg (pv 0) (g_tup (K := K) (n := 3) rfl rfl (pgs_cons (pg_name (i := 1) sc_is_shape.nd rfl (Or.inl rfl)) (pgs_cons (pg_name (i := 2) sc_is_shape.nd rfl (Or.inl rfl)) (pgs_cons (pg_name (i := 3) sc_is_shape.nd rfl (Or.inl rfl)) pgs_nil)))))
      (pss_one (ps_ret (pe_and (pe_chain g_le g_le pe_int (pv 1) (pe_callB (g_len (K := K) rfl) rfl T.b_len boot_len (pa_cons (pe_glob (v := .ref T.t_MARKS) rfl T.c_MARKS rfl) pa_nil))) (pe_and (pe_chain g_le g_le pe_int (pv 2) (pe_glob (v := .int 4) rfl T.c_MOST_SIZE ⟨_, rfl⟩)) (pe_one (pe_chain g_le g_le pe_int (pv 3) (pe_glob (v := .int 2) rfl T.c_MOST_SUMS ⟨_, rfl⟩))))))))), fun ds N' b hl hd acc => ?_⟩
  obtain ⟨d, rfl, hd⟩ := hd
  have fin : ∀ c : Bool, c = isShape d → fd_is_shape.res [d] (.bl c) := fun c e => ⟨d, rfl, by rw [e]⟩
  by_cases ht : ∃ xs, d = .tup xs
  · obtain ⟨xs, rfl⟩ := ht
    obtain ⟨hl, hk⟩ := hd
    refine w_seq (w_if (c := !decide (xs.length = 3) || !xs.all isI) (EvT.eq (et_or (c := false) (et_not (et_tru (d := .bl true) (by walk_at "ev") rfl)) fun _ => et_or (c := !decide (xs.length = 3)) (EvT.eq (c := !decide (((xs.length : Nat) : Int) = 3)) (by walk_at "ev") ?_) fun _ => et_not (et_tru (d := .bl (xs.all isI)) (EvD.eq (ev_cb (ea_cons (EvD.wk (ev_lc1 (fun i => .bl (isI (xs.getD i .non))) (ei_tup (by walk_at "ev")) hl fun i hi => ⟨_, tg_name, fun b0 => ?_⟩)) ea_nil) (c_all (bs := xs.map isI) ?_)) ?_) rfl)) (by rfl)) (fun h1 => ?_) (fun h1 => w_next ?_))
    · by_cases e : xs.length = 3
      · rw [decide_eq_true e, decide_eq_true (by omega)]
      · rw [decide_eq_false e, decide_eq_false (by omega)]
    · have q : plainK (xs.getD i .non) = true := by
        rw [List.getD_eq_getElem?_getD, List.getElem?_eq_getElem hi]
        exact hk _ (List.getElem_mem hi)
      exact ev_cal (by walk_at "ev") (cl_is_wholeD q) rfl
    · apply List.ext_getElem
      · simp
      · intro i h1 h2
        have hi : i < xs.length := by simpa using h1
        simp [List.getD_eq_getElem?_getD, hi]
    · rw [List.all_map]; rfl
    · refine w_ret (d := .bl false) (by walk_at "ev") ⟨by walk_at "b", fin _ ?_⟩
      unfold isShape
      split
      · rename_i g s u e
        injection e with e
        rw [e] at h1
        simp [isI] at h1
      · rfl
    · match xs, hl, hk, h1 with
      | [a, b', c], _, _, h1 =>
        simp only [List.all_cons, List.all_nil, Bool.and_true, List.length_cons, List.length_nil, Bool.or_eq_false_iff, Bool.not_eq_false', Bool.and_eq_true] at h1
        obtain ⟨_, ha, hb, hc⟩ := h1
        have toi : ∀ x : D, isI x = true → ∃ i, x = .int i := fun x h => by cases x <;> first | exact ⟨_, rfl⟩ | cases h
        obtain ⟨g, rfl⟩ := toi a ha
        obtain ⟨s, rfl⟩ := toi b' hb
        obtain ⟨u, rfl⟩ := toi c hc
        refine w_seq (w_tg (by walk_at "ev") (by walk_at "tg") ?_)
        refine w_ret (d := .bl (shB g s u)) (EvD.eq (by walk_at "ev") (by rfl)) ⟨by walk_at "b", fin _ rfl⟩
      | [], _, _, h1 => simp at h1
      | [a], _, _, h1 => simp at h1
      | [a, b'], _, _, h1 => simp at h1
      | a :: b' :: c :: e :: r, _, _, h1 => simp at h1
  · have hk : plainK d = true := by
      cases d <;> first | exact hd | exact absurd ⟨_, rfl⟩ ht
    have hb0 : isShape d = false := by
      cases d <;> first | rfl | exact absurd ⟨_, rfl⟩ ht
    refine w_seq (w_if (c := true) (EvT.eq (et_or (c := true) (e := true) (et_not (et_tru (d := .bl false) ?_ rfl)) fun h => nomatch h) rfl) (fun _ => ?_) (fun h => nomatch h))
    · cases d with
      | tup xs => exact absurd ⟨_, rfl⟩ ht
      | non => walk_at "ev"
      | bl c => walk_at "ev"
      | int c => walk_at "ev"
      | str c => walk_at "ev"
      | lst c => walk_at "ev"
      | dct c => walk_at "ev"
      | _ => cases hk
    · exact w_ret (d := .bl false) (by walk_at "ev") ⟨by walk_at "b", fin _ hb0.symm⟩

--OPT fdarg T.t_NoShape
def fd_need_shape (C : Addr) : Fd := { n := 1, dom := fun ds => ∃ d : D, ds = [d] ∧ plainT d, res := fun ds r => ∃ d : D, ds = [d] ∧ isShape d = true ∧ r = .non, exn := fun ds X fs => ∃ d : D, ds = [d] ∧ exS C d X fs }
theorem cl_need_shape {C : Addr} {g s u : Int} (h : ShOk g s u) : Cal (fd_need_shape C) [shD g s u] .non := ⟨rfl, ⟨_, rfl, plainT_sh g s u⟩, rfl, fun d ⟨d', e, q1, q2⟩ => q2, fun X fs ⟨d', e, q⟩ => by
  cases e
  exact exS_no h q⟩
local macro_rules | `(tactic| walk_at "cal") => `(tactic| (apply cl_need_shape; first | assumption | skip))
theorem ok_need_shape (T : Txt K mg) : FnOk P w K mg base (L2.CX P w) 3 T.f_need_shape T.fd_need_shape ["thing"] (SpD K (fd_need_shape T.t_NoShape)) := by
  refine fn_data (dvs := []) (kws := []) (N := N_need_shape) (.inr T.F_need_shape) sc_need_shape rfl (fun cdv A outer s H E hr tk => ?_)
  refine ⟨_, (pss_one (ps_if (pt_not (g_tru (K := K) rfl (pe_cl (m := 0) (ok_is_shape T) (hr.mono (by decide)) rfl T.g_is_shape T.k_is_shape T.b_is_shape (passD tk) (pa_cons (pv 0) pa_nil) pk_nil) (fun _ => rfl))) (pss_one (g_raise1 (K := K) rfl rfl (x_NoShape T) (hr.mono (by decide)) tk (by rfl) T.g_NoShape (pv 0))) pss_nil)), fun ds N' b hl hd acc => ?_⟩
  obtain ⟨d, rfl, hp⟩ := hd
  refine w_if (c := !isShape d) (et_not (et_tru (d := .bl (isShape d)) (by walk_at "ev") rfl)) (fun h => ?_) (fun h => w_next ?_)
  · exact w_raise1 acc T.o_NoShape T.n_NoShape (by walk_at "ev") ⟨by walk_at "b", d, rfl, by simpa using h, rfl, rfl⟩
  · exact ⟨by walk_at "b", ⟨d, rfl, by simpa using h, rfl⟩, rfl⟩

--OPT fdarg T.t_NoShape
def fd_count (C : Addr) : Fd := { n := 1, dom := fun ds => ∃ d : D, ds = [d] ∧ plainT d, res := fun ds r => ∃ g s u : Nat, ds = [shD g s u] ∧ ShOk g s u ∧ r = .int ((g : Int) * ((s : Int) + 1) + u), exn := fun ds X fs => ∃ d : D, ds = [d] ∧ exS C d X fs }
theorem cl_count {C : Addr} {g s u : Int} (h : ShOk g s u) : Cal (fd_count C) [shD g s u] (.int (g * (s + 1) + u)) := ⟨rfl, ⟨_, rfl, plainT_sh g s u⟩, rfl, fun d ⟨g', s', u', e, q1, q2⟩ => by cases e; exact q2, fun X fs ⟨d', e, q⟩ => by
  cases e
  exact exS_no h q⟩
local macro_rules | `(tactic| walk_at "cal") => `(tactic| (apply cl_count; first | assumption | skip))
theorem ok_count (T : Txt K mg) : FnOk P w K mg base (L2.CX P w) 4 T.f_count T.fd_count ["shape"] (SpD K (fd_count T.t_NoShape)) := by
  refine fn_data (N := N_count) (.inl T.F_count) sc_count rfl (fun cdv A outer s H E hr tk => ?_)
  refine ⟨_, (pss_cons (ps_expr (pe_cl (m := 0) (ok_need_shape T) (hr.mono (by decide)) rfl T.g_need_shape T.k_need_shape T.b_need_shape (passD tk) (pa_cons (pv 0) pa_nil) pk_nil))
      (pss_cons (ps_asg (pv 0) (g_tup (K := K) (n := 3) rfl rfl (pgs_cons (pg_name (i := 1) sc_count.nd rfl (Or.inl rfl)) (pgs_cons (pg_name (i := 2) sc_count.nd rfl (Or.inl rfl)) (pgs_cons (pg_name (i := 3) sc_count.nd rfl (Or.inl rfl)) pgs_nil)))))
      (pss_one (ps_ret (pe_op (g_add (K := K) rfl) (pe_op g_mul (pv 1) (pe_op (g_add (K := K) rfl) (pv 2) pe_int)) (pv 3)))))), fun ds N' b hl hd acc => ?_⟩
  obtain ⟨d, rfl, hp⟩ := hd
  refine w_seq (ws_drop (b' := (fd_count T.t_NoShape).cost [d] + b) (evs_calX (es := [d]) (by walk_at "ev") rfl rfl ⟨d, rfl, hp⟩ (Nat.le_of_eq (Nat.zero_add _)) acc (fun z => nomatch z) fun C x ⟨d', e, q⟩ => by cases e; exact ⟨Nat.le_add_left _ _, d, rfl, q⟩) fun r ⟨d', e, h, _⟩ => ?_)
  cases e
  obtain ⟨g, s, u, rfl, hs⟩ := isShape_inv h
  obtain ⟨⟨g0, g1⟩, ⟨s0, s1⟩, u0, u1⟩ := id hs
  refine w_seq (w_tg (by walk_at "ev") (by walk_at "tg") ?_)
  refine w_ret (by walk_at "ev") ?_
  exact ⟨by walk_at "b", g, s, u, rfl, hs, rfl⟩

def fd_is_place : Fd := { n := 2, dom := fun ds => ∃ (t : D) (g s u : Nat), ds = [t, shD g s u] ∧ ShOk g s u ∧ plainK t = true, res := fun ds d => ∃ (t : D) (g s u : Nat), ds = [t, shD g s u] ∧ d = .bl (isPl g s u t) }
theorem cl_is_place {t : D} {g s u : Nat} (h : ShOk g s u) (ht : plainK t = true) : Cal fd_is_place [t, shD g s u] (.bl (isPl g s u t)) := ⟨rfl, ⟨t, g, s, u, rfl, h, ht⟩, rfl, fun d ⟨t', g', s', u', e, q⟩ => by
  injection e with e1 e
  injection e with e2 e
  obtain ⟨rfl, rfl, rfl⟩ := shD_inj e2
  rw [q, e1], fun _ _ q => q⟩
local macro_rules | `(tactic| walk_at "cal") => `(tactic| (apply cl_is_place <;> first | assumption | skip))
theorem ok_is_place (T : Txt K mg) : FnOk P w K mg base (L2.CX P w) 5 T.f_is_place T.fd_is_place ["thing", "shape"] (SpD K fd_is_place) := by
  refine fn_data (dvs := []) (kws := []) (N := N_is_place) (.inr T.F_is_place) sc_is_place rfl (fun cdv A outer s H E hr tk => ?_)
  refine ⟨_, (pss_one (ps_ret (pe_and (pe_cl (m := 0) (ok_is_whole T) (hr.mono (by decide)) rfl T.g_is_whole T.k_is_whole T.b_is_whole (passD tk) (pa_cons (pv 0) pa_nil) pk_nil) (pe_one (pe_chain g_le g_lt pe_int (pv 0) (pe_cl0 (m := 1) (ok_count T) (hr.mono (by decide)) rfl T.g_count T.k_count T.b_count_0_shape (passD tk) (pk_cons (pv 1) pk_nil))))))), fun ds N' b hl hd acc => ?_⟩
  obtain ⟨t, g, s, u, rfl, h, hk⟩ := hd
  cases t with
  | int c => exact w_ret (d := .bl (isPl g s u (.int c))) (EvD.eq (by walk_at "ev") (by rfl)) ⟨by walk_at "b", _, g, s, u, rfl, rfl⟩
  | _ => first | exact w_ret (d := .bl false) (EvD.eq (ev_andV (c := false) (e := false) (ev_cal (ea_cons (by walk_at "ev") ea_nil) (cl_is_wholeD hk) rfl) fun h => nomatch h) (by rfl)) ⟨by walk_at "b", _, g, s, u, rfl, rfl⟩ | cases hk

--OPT fdarg T.t_NoPlace
/-- the first of ts that is no place -/
def noPl (g s u : Nat) (C : Addr) (ts : List D) (X : Addr) (fs : List (Str × D)) : Prop := ∃ (i : Nat) (t : D), ts[i]? = some t ∧ (∀ (j : Nat) (t' : D), j < i → ts[j]? = some t' → isPl g s u t' = true) ∧ isPl g s u t = false ∧ exP C t X fs
def fd_need_places (C : Addr) : Fd := { n := 2, dom := fun ds => ∃ (ts : List D) (g s u : Nat), ds = [.lst ts, shD g s u] ∧ ShOk g s u ∧ ts.length ≤ 100000 ∧ ∀ t ∈ ts, plainK t = true, res := fun ds d => ∃ (ts : List D) (g s u : Nat), ds = [.lst ts, shD g s u] ∧ (∀ t ∈ ts, isPl g s u t = true) ∧ d = .non, exn := fun ds X fs => ∃ (ts : List D) (g s u : Nat), ds = [.lst ts, shD g s u] ∧ noPl g s u C ts X fs }
theorem ok_need_places (T : Txt K mg) : FnOk P w K mg base (L2.CX P w) 6 T.f_need_places T.fd_need_places ["things", "shape"] (SpD K (fd_need_places T.t_NoPlace)) := by
  refine fn_data (dvs := []) (kws := []) (N := N_need_places) (.inr T.F_need_places) sc_need_places rfl (fun cdv A outer s H E hr tk => ?_)
  refine ⟨_, (pss_one (ps_for (passes_of rfl) rfl (g_list (K := K) rfl (pv 0)) (pg_name (i := 2) sc_need_places.nd rfl (Or.inl rfl)) (pss_one (ps_if (pt_not (g_tru (K := K) rfl (pe_cl (m := 0) (ok_is_place T) (hr.mono (by decide)) rfl T.g_is_place T.k_is_place T.b_is_place (passD tk) (pa_cons (pv 2) (pa_cons (pv 1) pa_nil)) pk_nil) (fun _ => rfl))) (pss_one (g_raise1 (K := K) rfl rfl (x_NoPlace T) (hr.mono (by decide)) tk (by rfl) T.g_NoPlace (pv 2))) pss_nil)))), fun ds N' b hl hd acc => ?_⟩
  obtain ⟨ts, g, s, u, rfl, h, hl, hk⟩ := hd
  refine w_for allV (fun i ds b' => ∃ s2 : Sd, ds = [.dat (.lst ts), .dat (shD g s u), s2] ∧ (∀ (j : Nat) (t' : D), j < i → ts[j]? = some t' → isPl g s u t' = true) ∧ b' = (fd_need_places T.t_NoPlace).cost [.lst ts, shD g s u] + b) (ei_list (by walk_at "ev")) ⟨_, rfl, (fun j t' h => absurd h (Nat.not_lt_zero _)), by rfl⟩ ?_ ?_
  · rintro i ds' b' hi ⟨s2, rfl, hpre, rfl⟩
    have e : ts.getD i .non = ts[i] := by rw [List.getD_eq_getElem?_getD, List.getElem?_eq_getElem hi]; rfl
    have hp : plainK ts[i] = true := hk _ (List.getElem_mem hi)
    have hi? : ts[i]? = some ts[i] := List.getElem?_eq_getElem hi
    rw [e]
    generalize ts[i] = t at *
    refine ⟨_, tg_name, ?_⟩
    refine w_if (c := !isPl g s u t) (et_not (et_tru (ev_cal (p := false) (by walk_at "ev") (cl_is_place h hp) rfl) rfl)) (fun h1 => ?_) (fun h1 => w_next ?_)
    · exact w_raise1 acc T.o_NoPlace T.n_NoPlace (by walk_at "ev") ⟨by walk_at "b", ts, g, s, u, rfl, i, t, hi?, hpre, by simpa using h1, rfl, rfl⟩
    · refine ⟨_, rfl, fun j t' hj ht => ?_, rfl⟩
      by_cases hji : j = i
      · subst hji
        rw [hi?] at ht
        cases ht
        simpa using h1
      · exact hpre j t' (by omega) ht
  · rintro ds' b' ⟨s2, rfl, hpre, rfl⟩
    refine ⟨by walk_at "b", ⟨ts, g, s, u, rfl, fun t ht => ?_, rfl⟩, rfl⟩
    obtain ⟨j, hj, rfl⟩ := List.getElem_of_mem ht
    exact hpre j _ hj (List.getElem?_eq_getElem hj)

--OPT fdarg T.t_NoShape
theorem flat2_len (m : Nat) (f : Nat → Nat → D) : ∀ i, (flat2 (fun _ => m) (fun _ _ => true) f i).length = i * m
  | 0 => by simp [flat2]
  | i + 1 => by
    rw [flat2_step, List.length_append, flat2_len m f i, Nat.add_mul, Nat.one_mul, List.length_map, List.filter_eq_self.mpr (fun _ _ => rfl), List.length_range]
def fd_data_places (C : Addr) : Fd := { n := 1, dom := fun ds => ∃ d : D, ds = [d] ∧ plainT d, res := fun ds r => ∃ g s u : Nat, ds = [shD g s u] ∧ ShOk g s u ∧ r = .lst (iL (dataP g s)), exn := fun ds X fs => ∃ d : D, ds = [d] ∧ exS C d X fs, own := true }
theorem cl_data_places {C : Addr} {g s u : Nat} (h : ShOk g s u) : Cal (fd_data_places C) [shD g s u] (.lst (iL (dataP g s))) := ⟨rfl, ⟨_, rfl, plainT_sh g s u⟩, rfl, fun d ⟨g', s', u', e, q1, q2⟩ => by
  injection e with e2 e
  obtain ⟨rfl, rfl, rfl⟩ := shD_inj e2
  exact q2, fun X fs ⟨d', e, q⟩ => by
  cases e
  exact exS_no h q⟩
local macro_rules | `(tactic| walk_at "cal") => `(tactic| (apply cl_data_places; first | assumption | skip))
theorem ok_data_places (T : Txt K mg) : FnOk P w K mg base (L2.CX P w) 4 T.f_data_places T.fd_data_places ["shape"] (SpD K (fd_data_places T.t_NoShape)) := by
  refine fn_data (N := N_data_places) (.inl T.F_data_places) sc_data_places rfl (fun cdv A outer s H E hr tk => ?_)
  refine ⟨_, (pss_cons (ps_expr (pe_cl (m := 0) (ok_need_shape T) (hr.mono (by decide)) rfl T.g_need_shape T.k_need_shape T.b_need_shape (passD tk) (pa_cons (pv 0) pa_nil) pk_nil))
      (pss_cons (ps_asg (pv 0) (g_tup (K := K) (n := 3) rfl rfl (pgs_cons (pg_name (i := 1) sc_data_places.nd rfl (Or.inl rfl)) (pgs_cons (pg_name (i := 2) sc_data_places.nd rfl (Or.inr rfl)) (pgs_cons (pg_name (i := 3) sc_data_places.nd rfl (Or.inl rfl)) pgs_nil)))))
      (pss_one (ps_ret (pe_lc2 (own := [("group", 4), ("at", 5)]) (vs1 := [5]) rfl sc_data_places.nd (pi_range1 rfl T.b_range (pa_cons (pv 1) pa_nil)) (blkOk_by (own := [("group", 4), ("at", 5)]) (N := N_data_places) (sc := defScope s_data_places) (by decide +kernel)) (by decide) (fun _ _ _ _ _ => (pg_name (i := 4) sc_data_places.nd rfl (Or.inl rfl))) (fun _ _ _ _ _ => pts_nil) (fun _ _ _ _ _ => (pi_range1 rfl T.b_range (pa_cons (pv 2) pa_nil))) (fun _ _ _ _ _ => (pg_name (i := 5) sc_data_places.nd rfl (Or.inl rfl))) (fun _ _ _ _ _ => pts_nil) (fun _ _ _ _ _ => (pe_op (g_add (K := K) rfl) (pe_op g_mul (pv 4) (pe_op (g_add (K := K) rfl) (pv 2) pe_int)) (pv 5)))))))), fun ds N' b hl hd acc => ?_⟩
  obtain ⟨d, rfl, hp⟩ := hd
  refine w_seq (ws_drop (b' := (fd_data_places T.t_NoShape).cost [d] + b) (evs_calX (es := [d]) (by walk_at "ev") rfl rfl ⟨d, rfl, hp⟩ (Nat.le_of_eq (Nat.zero_add _)) acc (fun z => nomatch z) fun C x ⟨d', e, q⟩ => by cases e; exact ⟨Nat.le_add_left _ _, d, rfl, q⟩) fun r ⟨d', e, h', _⟩ => ?_)
  cases e
  obtain ⟨g', s', u', rfl, h⟩ := isShape_inv h'
  obtain ⟨⟨g0, g1⟩, ⟨s0, s1⟩, u0, u1⟩ := id h
  have hgi : ((g' : Int)).toNat = g' := Int.toNat_natCast g'
  have hsi : ((s' : Int)).toNat = s' := Int.toNat_natCast s'
  refine w_seq ?_
  refine w_tg (by walk_at "ev") (by walk_at "tg") ?_
  refine w_retE (eo_lc2 (fun _ => ((s' : Int)).toNat) (fun _ j => .int (j : Int)) (fun _ _ => true) (fun i j => .int ((i : Int) * ((s' : Int) + 1) + (j : Int))) (ei_r1 (p := false) (n := (g' : Int)) (by walk_at "ev") (by omega)) ?_ fun i hi => ⟨_, tg_name, ?_, fun b0 => ei_r1 (p := false) (n := (s' : Int)) (by walk_at "ev") (by omega), fun j hj => ⟨_, tg_name, fun b0 => ⟨et_yes, fun _ => by walk_at "ev"⟩⟩⟩) ?_
  · intro i j hi hj
    rw [List.length_append, flat2_len, List.length_map, List.filter_eq_self.mpr (fun _ _ => rfl), List.length_range]
    have q : i * ((s' : Int)).toNat ≤ 4 * 4 := Nat.mul_le_mul (by omega) (by omega)
    omega
  · intro x hx
    have q := List.all_eq_true.mp (show (List.all _ fun s => !isOwn s) = true from rfl) x hx
    simpa using q
  · refine ⟨by walk_at "b", g', s', u', rfl, h, ?_⟩
    rw [hgi, hsi]
    congr 1
    unfold flat2 dataP iL
    rw [List.map_flatMap]
    congr 1
    funext i
    rw [List.filter_eq_self.mpr (fun _ _ => rfl), List.map_map]
    rfl

--OPT fdarg T.t_NoShape T.t_NoPlace
/-- a place's kind -/
def kindD (g s p : Int) : D :=
  if g ≤ p / (s + 1) then .tup [.str "over", .int (p - g * (s + 1) + 1)]
  else if p % (s + 1) = s then .tup [.str "local", .int (p / (s + 1))]
  else .tup [.str "data", .int (p / (s + 1)), .int (p % (s + 1))]
/-- refused: no shape, or no place of the shape -/
def exSP (C1 C2 : Addr) (t d : D) (X : Addr) (fs : List (Str × D)) : Prop := exS C1 d X fs ∨ ∃ g s u : Nat, d = shD g s u ∧ ShOk g s u ∧ isPl g s u t = false ∧ exP C2 t X fs
theorem isPl_inv {g s u : Int} {t : D} (h : isPl g s u t = true) : ∃ p : Int, t = .int p ∧ 0 ≤ p ∧ p < g * (s + 1) + u := by
  unfold isPl at h
  split at h
  · rename_i i
    rw [Bool.and_eq_true] at h
    exact ⟨i, rfl, of_decide_eq_true h.1, of_decide_eq_true h.2⟩
  · cases h
theorem isPl_ok {g s u p : Int} (h0 : 0 ≤ p) (h1 : p < g * (s + 1) + u) : isPl g s u (.int p) = true := by
  show (decide (0 ≤ p) && decide (p < g * (s + 1) + u)) = true
  rw [decide_eq_true h0, decide_eq_true h1]; rfl
theorem exSP_no {C1 C2 X : Addr} {fs : List (Str × D)} {p : Int} {g s u : Nat} (h : ShOk g s u) (h0 : 0 ≤ p) (h1 : p < (g : Int) * ((s : Int) + 1) + u) : ¬ exSP C1 C2 (.int p) (shD g s u) X fs := by
  rintro (z | ⟨g', s', u', e, _, z, _⟩)
  · exact exS_no h z
  · obtain ⟨rfl, rfl, rfl⟩ := shD_inj e
    rw [isPl_ok h0 h1] at z
    cases z
def fd_kind_of (C1 C2 : Addr) : Fd := { n := 2, dom := fun ds => ∃ t d : D, ds = [t, d] ∧ plainK t = true ∧ plainT d, res := fun ds r => ∃ (p : Int) (g s u : Nat), ds = [.int p, shD g s u] ∧ ShOk g s u ∧ 0 ≤ p ∧ p < (g : Int) * ((s : Int) + 1) + u ∧ r = kindD g s p, exn := fun ds X fs => ∃ t d : D, ds = [t, d] ∧ exSP C1 C2 t d X fs }
theorem cl_kind_of {C1 C2 : Addr} {p : Int} {g s u : Nat} (h : ShOk g s u) (h0 : 0 ≤ p) (h1 : p < (g : Int) * ((s : Int) + 1) + u) : Cal (fd_kind_of C1 C2) [.int p, shD g s u] (kindD g s p) := ⟨rfl, ⟨_, _, rfl, rfl, plainT_sh g s u⟩, rfl, fun d ⟨p', g', s', u', e, q1, q2, q3, q4⟩ => by
  injection e with e1 e
  injection e with e2 e
  injection e1 with e1
  obtain ⟨rfl, rfl, rfl⟩ := shD_inj e2
  rw [q4, e1], fun X fs ⟨t, d, e, q⟩ => by
  cases e
  exact exSP_no h h0 h1 q⟩
local macro_rules | `(tactic| walk_at "cal") => `(tactic| (apply cl_kind_of <;> first | assumption | omega | skip))
theorem ok_kind_of (T : Txt K mg) : FnOk P w K mg base (L2.CX P w) 7 T.f_kind_of T.fd_kind_of ["place", "shape"] (SpD K (fd_kind_of T.t_NoShape T.t_NoPlace)) := by
  refine fn_data (N := N_kind_of) (.inl T.F_kind_of) sc_kind_of rfl (fun cdv A outer s H E hr tk => ?_)
  refine ⟨_, (pss_cons (ps_expr (pe_cl (m := 0) (ok_need_shape T) (hr.mono (by decide)) rfl T.g_need_shape T.k_need_shape T.b_need_shape (passD tk) (pa_cons (pv 1) pa_nil) pk_nil))
      (pss_cons (ps_expr (pe_cl (m := 0) (ok_need_places T) (hr.mono (by decide)) rfl T.g_need_places T.k_need_places T.b_need_places (passD tk) (pa_cons (pe_lst (pa_cons (pv 0) pa_nil)) (pa_cons (pv 1) pa_nil)) pk_nil))
      (pss_cons (ps_asg (pv 1) (g_tup (K := K) (n := 3) rfl rfl (pgs_cons (pg_name (i := 2) sc_kind_of.nd rfl (Or.inl rfl)) (pgs_cons (pg_name (i := 3) sc_kind_of.nd rfl (Or.inl rfl)) (pgs_cons (pg_name (i := 4) sc_kind_of.nd rfl (Or.inl rfl)) pgs_nil)))))
      (pss_cons (ps_asg (pe_callB g_divmod rfl T.b_divmod boot_divmod (pa_cons (pv 0) (pa_cons (pe_op (g_add (K := K) rfl) (pv 3) pe_int) pa_nil))) (g_tup (K := K) (n := 2) rfl rfl (pgs_cons (pg_name (i := 5) sc_kind_of.nd rfl (Or.inl rfl)) (pgs_cons (pg_name (i := 6) sc_kind_of.nd rfl (Or.inl rfl)) pgs_nil))))
      (pss_cons (ps_if (pt_cmpR g_ge (pv 5) (pv 2) (nomark _)) (pss_one (ps_ret (pe_tup (pa_cons pe_str (pa_cons (pe_op (g_add (K := K) rfl) (pe_op g_sub (pv 0) (pe_op g_mul (pv 2) (pe_op (g_add (K := K) rfl) (pv 3) pe_int))) pe_int) pa_nil))))) pss_nil)
      (pss_cons (ps_if (pt_cmpR (g_eq (K := K) rfl hr) (pv 6) (pv 3) (nomark _)) (pss_one (ps_ret (pe_tup (pa_cons pe_str (pa_cons (pv 5) pa_nil))))) pss_nil)
      (pss_one (ps_ret (pe_tup (pa_cons pe_str (pa_cons (pv 5) (pa_cons (pv 6) pa_nil)))))))))))), fun ds N' b hl hd acc => ?_⟩
  obtain ⟨t, d, rfl, ht, hp⟩ := hd
  refine w_seq (ws_drop (b' := (fd_kind_of T.t_NoShape T.t_NoPlace).cost [t, d] + b) (evs_calX (es := [d]) (by walk_at "ev") rfl rfl ⟨d, rfl, hp⟩ (Nat.le_of_eq (Nat.zero_add _)) acc (fun z => nomatch z) fun C x ⟨d', e, q⟩ => by cases e; exact ⟨Nat.le_add_left _ _, t, d, rfl, .inl q⟩) fun r ⟨d', e, h', _⟩ => ?_)
  cases e
  obtain ⟨g, s, u, rfl, h⟩ := isShape_inv h'
  obtain ⟨⟨g0, g1⟩, ⟨s0, s1⟩, u0, u1⟩ := id h
  refine w_seq (ws_drop (b' := (fd_kind_of T.t_NoShape T.t_NoPlace).cost [t, shD g s u] + b) (evs_calX (es := [.lst [t], shD g s u]) (by walk_at "ev") rfl rfl ⟨[t], g, s, u, rfl, h, by show 1 ≤ 100000; decide, fun t' ht' => by rw [List.mem_singleton.mp ht']; exact ht⟩ (Nat.le_of_eq (Nat.zero_add _)) acc (fun z => nomatch z) fun C x ⟨ts', g', s', u', e, q⟩ => ?_) fun r ⟨ts', g', s', u', e, h2, _⟩ => ?_)
  · injection e with e1 e
    injection e with e2 e
    injection e1 with e1
    obtain ⟨rfl, rfl, rfl⟩ := shD_inj e2
    subst e1
    obtain ⟨i, t', hi, _, hn, q⟩ := q
    cases i with
    | zero => cases hi; exact ⟨Nat.le_add_left _ _, t, _, rfl, .inr ⟨g, s, u, rfl, h, hn, q⟩⟩
    | succ i => cases hi
  · injection e with e1 e
    injection e with e2 e
    injection e1 with e1
    obtain ⟨rfl, rfl, rfl⟩ := shD_inj e2
    subst e1
    obtain ⟨p, rfl, p0, p1⟩ := isPl_inv (h2 t (List.mem_singleton.mpr rfl))
    have hpb : p.natAbs < 2 ^ 8 := by
      have q : (g : Int) * ((s : Int) + 1) ≤ 4 * 5 := Int.mul_le_mul g1 (by omega) (by omega) (by decide)
      omega
    refine w_seq ?_
    refine w_tg (by walk_at "ev") (by walk_at "tg") (w_seq ?_)
    refine w_tg (by walk_at "ev") (by walk_at "tg") (w_seq ?_)
    have fin : ∀ r : D, r = kindD g s p → (fd_kind_of T.t_NoShape T.t_NoPlace).res [.int p, shD g s u] r := fun r e => ⟨p, g, s, u, rfl, h, p0, p1, e⟩
    refine w_if (by walk_at "ev") (fun h1 => ?_) (fun h1 => w_next (w_seq (w_if (by walk_at "ev") (fun h2 => ?_) (fun h2 => w_next ?_))))
    · refine w_ret (by walk_at "ev") ?_
      exact ⟨by walk_at "b", fin _ (by unfold kindD; rw [if_pos (of_decide_eq_true h1)])⟩
    · refine w_ret (by walk_at "ev") ?_
      exact ⟨by walk_at "b", fin _ (by unfold kindD; rw [if_neg (of_decide_eq_false h1), if_pos (of_decide_eq_true h2)])⟩
    · refine w_ret (by walk_at "ev") ?_
      exact ⟨by walk_at "b", fin _ (by unfold kindD; rw [if_neg (of_decide_eq_false h1), if_neg (of_decide_eq_false h2)])⟩

--OPT lunpack where
--OPT fdarg T.t_NoShape T.t_NoPlace
def markV (s p : Int) : Int := [1, 11, 40, 30].getD (p / (s + 1)).toNat 0 + p % (s + 1)
/-- refused: no shape, no place of the shape, or a place of no data -/
def exM (C1 C2 : Addr) (t d : D) (X : Addr) (fs : List (Str × D)) : Prop := exSP C1 C2 t d X fs ∨ ∃ (p : Int) (g s u : Nat), t = .int p ∧ d = shD g s u ∧ ShOk g s u ∧ 0 ≤ p ∧ p < (g : Int) * ((s : Int) + 1) + u ∧ (g ≤ p / ((s : Int) + 1) ∨ p % ((s : Int) + 1) = s) ∧ exP C2 t X fs
def fd_mark (C1 C2 : Addr) : Fd := { n := 2, dom := fun ds => ∃ t d : D, ds = [t, d] ∧ plainK t = true ∧ plainT d, res := fun ds r => ∃ (p : Int) (g s u : Nat), ds = [.int p, shD g s u] ∧ ShOk g s u ∧ 0 ≤ p ∧ p / ((s : Int) + 1) < g ∧ p % ((s : Int) + 1) ≠ s ∧ r = .int (markV s p), exn := fun ds X fs => ∃ t d : D, ds = [t, d] ∧ exM C1 C2 t d X fs }
theorem mk_lt {p : Int} {g s u : Nat} (h0 : 0 ≤ p) (h1 : p / ((s : Int) + 1) < g) : p < (g : Int) * ((s : Int) + 1) + u := by
  have q1 := Int.emod_add_mul_ediv p ((s : Int) + 1)
  have q2 := Int.emod_lt_of_pos p (b := (s : Int) + 1) (by omega)
  have q3 : ((s : Int) + 1) * (p / ((s : Int) + 1) + 1) ≤ ((s : Int) + 1) * g := Int.mul_le_mul_of_nonneg_left (by omega) (by omega)
  rw [Int.mul_add, Int.mul_one, Int.mul_comm ((s : Int) + 1) g] at q3
  omega
theorem cl_mark {C1 C2 : Addr} {p : Int} {g s u : Nat} (h : ShOk g s u) (h0 : 0 ≤ p) (h1 : p / ((s : Int) + 1) < g) (h2 : p % ((s : Int) + 1) ≠ s) : Cal (fd_mark C1 C2) [.int p, shD g s u] (.int (markV s p)) := ⟨rfl, ⟨_, _, rfl, rfl, plainT_sh g s u⟩, rfl, fun d ⟨p', g', s', u', e, q1, q2, q3, q4, q5⟩ => by
  injection e with e1 e
  injection e with e2 e
  injection e1 with e1
  obtain ⟨rfl, rfl, rfl⟩ := shD_inj e2
  rw [q5, e1], fun X fs ⟨t, d, e, q⟩ => by
  cases e
  rcases q with q | ⟨p', g', s', u', e1, e2, _, _, _, q, _⟩
  · exact exSP_no h h0 (mk_lt h0 h1) q
  · injection e1 with e1
    obtain ⟨rfl, rfl, rfl⟩ := shD_inj e2
    subst e1
    omega⟩
local macro_rules | `(tactic| walk_at "cal") => `(tactic| (apply cl_mark <;> first | assumption | omega | skip))
theorem shp_data : D.shp 64 (.str "data") = true := by decide +kernel
theorem shp_over : D.shp 64 (.str "over") = true := by decide +kernel
theorem shp_local : D.shp 64 (.str "local") = true := by decide +kernel
theorem eq_data : D.eq (.str "data") (.str "data") = true := by decide +kernel
theorem eq_over : D.eq (.str "over") (.str "data") = false := by decide +kernel
theorem eq_local : D.eq (.str "local") (.str "data") = false := by decide +kernel
theorem ok_mark (T : Txt K mg) : FnOk P w K mg base (L2.CX P w) 8 T.f_mark T.fd_mark ["place", "shape"] (SpD K (fd_mark T.t_NoShape T.t_NoPlace)) := by
  have kP_MARKS := T.p_MARKS
  have kD_MARKS := T.q_MARKS
  refine fn_data (N := N_mark) (.inl T.F_mark) sc_mark rfl (fun cdv A outer s H E hr tk => ?_)
  refine ⟨_, (pss_cons (ps_asg (pe_cl (m := 1) (ok_kind_of T) (hr.mono (by decide)) rfl T.g_kind_of T.k_kind_of T.b_kind_of_1_shape (passD tk) (pa_cons (pv 0) pa_nil) (pk_cons (pv 1) pk_nil)) (g_star (K := K) (n := 2) (i := 1) rfl rfl (pgs_cons (pg_name (i := 2) sc_mark.nd rfl (Or.inl rfl)) (pgs_star (pg_name (i := 3) sc_mark.nd rfl (Or.inl rfl)) pgs_nil))))
      (pss_cons (ps_if (pt_cmpR (g_ne (K := K) rfl hr) (pv 2) pe_str (nomark _)) (pss_one (g_raise1 (K := K) rfl rfl (x_NoPlace T) (hr.mono (by decide)) tk (by rfl) T.g_NoPlace (pv 0))) pss_nil)
      (pss_cons (ps_asg (pv 3) (g_lst (K := K) (n := 2) rfl rfl (pgs_cons (pg_name (i := 4) sc_mark.nd rfl (Or.inl rfl)) (pgs_cons (pg_name (i := 5) sc_mark.nd rfl (Or.inl rfl)) pgs_nil))))
      (pss_one (ps_ret (pe_op (g_add (K := K) rfl) (pe_ix (g_ix (K := K) rfl hr) (pe_glob (v := .ref T.t_MARKS) rfl T.c_MARKS rfl) (pv 4) (fun _ _ => rfl)) (pv 5))))))), fun ds N' b hl hd acc => ?_⟩
  obtain ⟨t, d, rfl, ht, hp⟩ := hd
  refine w_seq (ws_star (b' := (fd_mark T.t_NoShape T.t_NoPlace).cost [t, d] + b) (i := 1) (n := 2) (is := [2, 3]) (evs_calXK (es := [t]) (fs := [d]) (by walk_at "ev") (by walk_at "ev") rfl rfl rfl ⟨t, d, rfl, ht, hp⟩ (Nat.le_of_eq (Nat.zero_add _)) acc (fun _ => rfl) fun C x ⟨t', d', e, q⟩ => by cases e; exact ⟨Nat.le_add_left _ _, t, d, rfl, .inl q⟩) (by decide) rfl fun r ⟨p, g, s, u, e, h, p0, p1, q⟩ => ?_)
  have e := e
  injection e with e1 e
  injection e with e2 e
  subst e1 e2
  obtain ⟨⟨g0, g1⟩, ⟨s0, s1⟩, u0, u1⟩ := id h
  have bad : ∀ b', b' = (fd_mark T.t_NoShape T.t_NoPlace).cost [.int p, shD g s u] + b → (g ≤ p / ((s : Int) + 1) ∨ p % ((s : Int) + 1) = s) → b ≤ b' ∧ (fd_mark T.t_NoShape T.t_NoPlace).exn [.int p, shD g s u] T.t_NoPlace [(("place" : Str), .int p)] := fun b' e h' => ⟨by omega, _, _, rfl, .inr ⟨p, g, s, u, rfl, rfl, h, p0, p1, h', rfl, rfl⟩⟩
  by_cases c1 : (g : Int) ≤ p / ((s : Int) + 1)
  · refine ⟨[.str "over", .int (p - g * (s + 1) + 1)], by rw [q]; unfold kindD; rw [if_pos c1]; rfl, by show 2 ≤ 2 + 1; decide, by show 2 ≤ 16384; decide, w_seq ?_⟩
    refine w_if (c := true) (EvT.eq (et_tst (ev_op (p := false) (x := .str "over") (y := .str "data") (by walk_at "ev") (by walk_at "ev") (o_ne shp_over shp_data))) (by rw [eq_over]; rfl)) (fun _ => ?_) (fun h => nomatch h)
    exact w_raise1 acc T.o_NoPlace T.n_NoPlace (by walk_at "ev") (bad _ rfl (.inl c1))
  · by_cases c2 : p % ((s : Int) + 1) = s
    · refine ⟨[.str "local", .int (p / (s + 1))], by rw [q]; unfold kindD; rw [if_neg c1, if_pos c2]; rfl, by show 2 ≤ 2 + 1; decide, by show 2 ≤ 16384; decide, w_seq ?_⟩
      refine w_if (c := true) (EvT.eq (et_tst (ev_op (p := false) (x := .str "local") (y := .str "data") (by walk_at "ev") (by walk_at "ev") (o_ne shp_local shp_data))) (by rw [eq_local]; rfl)) (fun _ => ?_) (fun h => nomatch h)
      exact w_raise1 acc T.o_NoPlace T.n_NoPlace (by walk_at "ev") (bad _ rfl (.inr c2))
    · refine ⟨[.str "data", .int (p / (s + 1)), .int (p % (s + 1))], by rw [q]; unfold kindD; rw [if_neg c1, if_neg c2]; rfl, by show 2 ≤ 3 + 1; decide, by show 3 ≤ 16384; decide, w_seq ?_⟩
      refine w_if (c := false) (EvT.eq (et_tst (ev_op (p := false) (x := .str "data") (y := .str "data") (by walk_at "ev") (by walk_at "ev") (o_ne shp_data shp_data))) (by rw [eq_data]; rfl)) (fun h => nomatch h) (fun _ => w_next ?_)
      refine w_seq (w_tg (d := .lst [.int (p / (s + 1)), .int (p % (s + 1))]) (by walk_at "ev") (by walk_at "tg") ?_)
      have hq0 : 0 ≤ p / ((s : Int) + 1) := Int.ediv_nonneg p0 (by omega)
      have hat : L2.atI [D.int 1, D.int 11, D.int 40, D.int 30] (p / ((s : Int) + 1)) = some (.int ([1, 11, 40, 30].getD (p / ((s : Int) + 1)).toNat 0)) := by
        have hk : p / ((s : Int) + 1) = 0 ∨ p / ((s : Int) + 1) = 1 ∨ p / ((s : Int) + 1) = 2 ∨ p / ((s : Int) + 1) = 3 := by omega
        rcases hk with e | e | e | e <;> rw [e] <;> rfl
      refine w_ret (by walk_at "ev") ?_
      exact ⟨by walk_at "b", p, g, s, u, rfl, h, p0, by omega, c2, rfl⟩

theorem set_mapR {α : Type} (f : Nat → α) (m p : Nat) (y : α) : ((List.range m).map f).set p y = (List.range m).map fun q => if q = p then y else f q := by
  apply List.ext_getElem
  · simp
  · intro i h1 h2
    rw [List.getElem_set, List.getElem_map, List.getElem_map, List.getElem_range]
    by_cases e : p = i
    · rw [if_pos e, if_pos e.symm]
    · rw [if_neg e, if_neg (Ne.symm e)]
theorem rep_one {α : Type} (x : α) : ∀ n : Nat, (List.replicate n [x]).flatten = List.replicate n x
  | 0 => rfl
  | n + 1 => by rw [List.replicate_succ, List.flatten_cons, rep_one x n]; rfl
theorem getE_app {α : Type} {l r : List α} {i : Nat} {h : i < (l ++ r).length} : (l ++ r)[i] = if h' : i < l.length then l[i] else r[i - l.length]'(by rw [List.length_append] at h; omega) := List.getElem_append ..
theorem loc_cut {g s u k : Nat} (hk : k < g) : ((List.replicate (many g s u) (0 : Int)).take (k * (s + 1)) ++ (List.replicate s 1 ++ [96])) ++ (List.replicate (many g s u) (0 : Int)).drop (k * (s + 1) + s + 1) = locR g s u k := by
  have hb := blk_lt (b := s + 1) hk (show s < s + 1 by omega)
  have hm : k * (s + 1) + s + 1 ≤ many g s u := by unfold many; omega
  apply List.ext_getElem
  · simp only [List.length_append, List.length_take, List.length_drop, List.length_replicate, List.length_cons, List.length_nil, locR_len]
    omega
  · intro i h1 h2
    have hi : i < many g s u := by rw [locR_len] at h2; exact h2
    have e2 : (locR g s u k)[i] = locF s k i := by simp [locR]
    rw [e2]
    by_cases c1 : i < k * (s + 1)
    · rw [List.getElem_append_left (by simp; omega), List.getElem_append_left (by simp; omega)]
      rw [List.getElem_take, List.getElem_replicate]
      unfold locF
      rw [if_neg]
      intro z
      have q : i / (s + 1) < k := (Nat.div_lt_iff_lt_mul (by omega)).mpr c1
      omega
    · by_cases c2 : i < k * (s + 1) + s + 1
      · obtain ⟨j, rfl⟩ := Nat.exists_eq_add_of_le (Nat.le_of_not_lt c1)
        have hl : ((List.replicate (many g s u) (0 : Int)).take (k * (s + 1))).length = k * (s + 1) := by
          rw [List.length_take, List.length_replicate]; omega
        rw [List.getElem_append_left (by simp; omega), List.getElem_append_right (by rw [hl]; omega)]
        unfold locF
        rw [dv k (s + 1) j (by omega), md k (s + 1) j (by omega), if_pos rfl]
        simp only [hl]
        by_cases c3 : j = s
        · subst c3
          rw [if_pos rfl, List.getElem_append_right (by simp)]
          simp
        · rw [if_neg c3, List.getElem_append_left (by simp; omega), List.getElem_replicate]
      · have hl : ((List.replicate (many g s u) (0 : Int)).take (k * (s + 1)) ++ (List.replicate s 1 ++ [96])).length = k * (s + 1) + s + 1 := by
          simp; omega
        rw [List.getElem_append_right (by rw [hl]; omega), List.getElem_drop, List.getElem_replicate]
        unfold locF
        rw [if_neg]
        intro z
        have q : k + 1 ≤ i / (s + 1) := by
          rw [Nat.le_div_iff_mul_le (by omega), Nat.add_mul]; omega
        omega
def fd_local_check : Fd := { n := 2, dom := fun ds => ∃ k g s u : Nat, ds = [.int k, shD g s u] ∧ ShOk g s u ∧ k < g, res := fun ds d => ∃ k g s u : Nat, ds = [.int k, shD g s u] ∧ d = .lst (iL (locR g s u k)), own := true }
theorem cl_local_check {k g s u : Nat} (h : ShOk g s u) (hk : k < g) : Cal fd_local_check [.int k, shD g s u] (.lst (iL (locR g s u k))) := ⟨rfl, ⟨k, g, s, u, rfl, h, hk⟩, rfl, fun d ⟨k', g', s', u', e, q⟩ => by
  injection e with e1 e
  injection e with e2 e
  injection e1 with e1
  obtain ⟨rfl, rfl, rfl⟩ := shD_inj e2
  rw [q, show k = k' by omega], fun _ _ q => q⟩
local macro_rules | `(tactic| walk_at "cal") => `(tactic| (apply cl_local_check <;> first | assumption | omega | skip))
theorem ok_local_check (T : Txt K mg) : FnOk P w K mg base (L2.CX P w) 5 T.f_local_check T.fd_local_check ["group", "shape"] (SpD K fd_local_check) := by
  refine fn_data (dvs := []) (kws := []) (N := N_local_check) (.inr T.F_local_check) sc_local_check rfl (fun cdv A outer s H E hr tk => ?_)
  refine ⟨_, (pss_cons (ps_asg (pv 1) (g_tup (K := K) (n := 3) rfl rfl (pgs_cons (pg_name (i := 2) sc_local_check.nd rfl (Or.inl rfl)) (pgs_cons (pg_name (i := 3) sc_local_check.nd rfl (Or.inl rfl)) (pgs_cons (pg_name (i := 4) sc_local_check.nd rfl (Or.inl rfl)) pgs_nil)))))
      (pss_cons (ps_set (i := 5) sc_local_check.nd rfl (Or.inl rfl) (pe_op g_mul (pe_lst (pa_cons pe_int pa_nil)) (pe_cl0 (m := 1) (ok_count T) (hr.mono (by decide)) rfl T.g_count T.k_count T.b_count_0_shape (passD tk) (pk_cons (pv 1) pk_nil))))
      (pss_cons (ps_set (i := 6) sc_local_check.nd rfl (Or.inl rfl) (pe_op g_mul (pv 0) (pe_op (g_add (K := K) rfl) (pv 3) pe_int)))
      (pss_cons (ps_asg (pe_op (g_add (K := K) rfl) (pe_op g_mul (pe_lst (pa_cons pe_int pa_nil)) (pv 3)) (pe_lst (pa_cons (pe_op g_sub (pe_glob (v := .int 97) rfl T.c_PRIME ⟨_, rfl⟩) pe_int) pa_nil))) (pg_subS (pv 5) (po_some (pv 6)) (po_some (pe_op (g_add (K := K) rfl) (pe_op (g_add (K := K) rfl) (pv 6) (pv 3)) pe_int))))
      (pss_one (ps_ret (pv 5))))))), fun ds N' b hl hd acc => ?_⟩
  obtain ⟨k, g, s, u, rfl, h, hk⟩ := hd
  obtain ⟨⟨g0, g1⟩, ⟨s0, s1⟩, u1⟩ := h.nat
  have hm := h.many
  have hb := blk_lt (b := s + 1) hk (show s < s + 1 by omega)
  have hmi : ((g : Int) * ((s : Int) + 1) + u) = ((many g s u : Nat) : Int) := by unfold many; push_cast; rfl
  have hfi : ((k : Int) * ((s : Int) + 1)) = ((k * (s + 1) : Nat) : Int) := by push_cast; rfl
  have hmm : many g s u = g * (s + 1) + u := rfl
  refine w_seq (w_tg (by walk_at "ev") (by walk_at "tg") (w_seq ?_))
  refine w_ownE (xs := iL (List.replicate (many g s u) 0)) (by
    have e : iL (List.replicate (many g s u) 0) = (List.replicate ((many g s u : Nat) : Int).toNat [D.int 0]).flatten := by
      rw [rep_one, Int.toNat_natCast]
      exact List.map_replicate ..
    rw [e]
    exact eo_rep (by walk_at "ev") (EvD.eq (by walk_at "ev") (by rw [hmi])) (by omega) (by show 1 * _ ≤ 100000; omega)) ?_
  refine w_seq (w_asg (by walk_at "ev") (w_seq ?_))
  have e1 : iL (List.replicate (many g s u) 0) = List.replicate (many g s u) (D.int 0) := List.map_replicate ..
  refine w_setSl (a := ((k * (s + 1) : Nat) : Int)) (c := ((k * (s + 1) + s + 1 : Nat) : Int)) (ys := iL (List.replicate s 1 ++ [96])) rfl (EvD.eq (ev_op (by
    refine ev_op (z := .lst (iL (List.replicate s 1))) (by walk_at "ev") (by walk_at "ev") ?_
    have e : iL (List.replicate s 1) = (List.replicate ((s : Nat) : Int).toNat [D.int 1]).flatten := by
      rw [rep_one, Int.toNat_natCast]
      exact List.map_replicate ..
    rw [e]
    exact o_rep (by omega) (by show 1 * _ ≤ 100000; omega)) (by walk_at "ev") (o_catL (by rw [iL_len, List.length_replicate]; show s + 1 ≤ 100000; omega))) (by rw [iL_app]; rfl)) (ep_some (EvD.eq (by walk_at "ev") (by rw [hfi]))) (ep_some (EvD.eq (by walk_at "ev") (by congr 1 <;> push_cast <;> omega))) (by omega) (by omega) (by rw [iL_len, List.length_replicate]; omega) (by rw [iL_len, iL_len, List.length_append, List.length_replicate, List.length_replicate]; show _ + (s + 1) ≤ _; omega) ?_
  refine w_retO rfl ?_
  refine ⟨by walk_at "b", k, g, s, u, rfl, ?_⟩
  rw [Int.toNat_natCast, Int.toNat_natCast, ← loc_cut hk]
  simp only [iL, List.map_append, List.map_take, List.map_drop]

theorem mem_dataP {g s p : Nat} : ((p : Int) ∈ dataP g s) ↔ p < g * (s + 1) ∧ p % (s + 1) ≠ s := by
  unfold dataP
  rw [List.mem_flatMap]
  constructor
  · rintro ⟨i, hi, h⟩
    obtain ⟨j, hj, e⟩ := List.mem_map.mp h
    have hi := List.mem_range.mp hi
    have hj := List.mem_range.mp hj
    have e2 : p = i * (s + 1) + j := by
      have q : ((i * (s + 1) + j : Nat) : Int) = (p : Int) := by push_cast; exact e
      omega
    rw [e2]
    exact ⟨blk_lt hi (by omega), by rw [md i (s + 1) j (by omega)]; omega⟩
  · rintro ⟨h1, h2⟩
    refine ⟨p / (s + 1), List.mem_range.mpr ((Nat.div_lt_iff_lt_mul (by omega)).mpr h1), List.mem_map.mpr ⟨p % (s + 1), List.mem_range.mpr ?_, ?_⟩⟩
    · have := Nat.mod_lt p (show 0 < s + 1 by omega)
      omega
    · have q := Nat.div_add_mod p (s + 1)
      rw [Nat.mul_comm] at q
      have q2 : ((p / (s + 1) * (s + 1) + p % (s + 1) : Nat) : Int) = (p : Int) := by rw [q]
      rw [← q2]
      push_cast
      rfl
theorem dataP_nat {g s : Nat} {x : Int} (h : x ∈ dataP g s) : ∃ p : Nat, x = (p : Int) := by
  unfold dataP at h
  obtain ⟨i, _, h⟩ := List.mem_flatMap.mp h
  obtain ⟨j, _, e⟩ := List.mem_map.mp h
  exact ⟨i * (s + 1) + j, by rw [← e]; push_cast; rfl⟩
theorem dataP_len (g s : Nat) : (dataP g s).length = g * s := by
  unfold dataP
  rw [List.length_flatMap]
  have e : (List.range g).map (fun (i : Nat) => ((List.range s).map fun (j : Nat) => (i : Int) * ((s : Int) + 1) + (j : Int)).length) = List.replicate g s := by
    apply List.ext_getElem
    · simp
    · intro i h1 h2
      simp
  rw [e, List.sum_replicate_nat]
theorem markV_sgn {s p : Nat} : markV (s : Int) (p : Int) = sgn (p / (s + 1)) (p % (s + 1)) := by
  unfold markV sgn
  have e1 : (p : Int) / ((s : Int) + 1) = ((p / (s + 1) : Nat) : Int) := by push_cast; rfl
  have e2 : (p : Int) % ((s : Int) + 1) = ((p % (s + 1) : Nat) : Int) := by push_cast; rfl
  rw [e1, e2, Int.toNat_natCast]
/-- the row while it is being written -/
def ovS (g s u n i : Nat) : List Int := (List.range (many g s u)).map fun (p : Nat) => if (p : Int) ∈ (dataP g s).take i then pw (markV s p) n else 0
theorem ovS_zero (g s u n : Nat) : ovS g s u n 0 = List.replicate (many g s u) 0 := by
  unfold ovS
  apply List.ext_getElem
  · simp
  · intro i h1 h2
    simp
theorem ovS_step {g s u n i p : Nat} (hi : i < (dataP g s).length) (hp : (dataP g s)[i] = (p : Int)) : (ovS g s u n i).set p (pw (markV s p) n) = ovS g s u n (i + 1) := by
  unfold ovS
  rw [set_mapR]
  apply List.map_congr_left
  intro q hq
  have e : (dataP g s).take (i + 1) = (dataP g s).take i ++ [(p : Int)] := by rw [List.take_succ, List.getElem?_eq_getElem hi, hp]; rfl
  rw [e]
  by_cases h : q = p
  · subst h
    simp
  · have h2 : ¬ ((q : Int) = (p : Int)) := by omega
    simp [h, h2]
theorem ovS_end {g s u n : Nat} (hn : n < u) : (ovS g s u (n + 1) (dataP g s).length).set (g * (s + 1) + n) 96 = ovR g s u (n + 1) := by
  unfold ovS ovR
  rw [set_mapR, List.take_length]
  apply List.map_congr_left
  intro p hp
  have hp := List.mem_range.mp hp
  unfold ovF
  by_cases h : p = g * (s + 1) + n
  · rw [if_pos h, if_neg (by omega), if_pos (by omega)]
  · rw [if_neg h]
    by_cases h1 : p < g * (s + 1)
    · rw [if_pos h1]
      by_cases h2 : p % (s + 1) = s
      · rw [if_pos h2, if_neg (fun z => (mem_dataP.mp z).2 h2)]
      · rw [if_neg h2, if_pos (mem_dataP.mpr ⟨h1, h2⟩), markV_sgn]
        rfl
    · rw [if_neg h1, if_neg (fun z => h1 (mem_dataP.mp z).1), if_neg (by omega)]
def fd_over_check : Fd := { n := 2, dom := fun ds => ∃ n g s u : Nat, ds = [.int ((n : Int) + 1), shD g s u] ∧ ShOk g s u ∧ n < u, res := fun ds d => ∃ n g s u : Nat, ds = [.int ((n : Int) + 1), shD g s u] ∧ d = .lst (iL (ovR g s u (n + 1))), own := true }
theorem cl_over_check {n g s u : Nat} (h : ShOk g s u) (hn : n < u) : Cal fd_over_check [.int ((n : Int) + 1), shD g s u] (.lst (iL (ovR g s u (n + 1)))) := ⟨rfl, ⟨n, g, s, u, rfl, h, hn⟩, rfl, fun d ⟨k', g', s', u', e, q⟩ => by
  injection e with e1 e
  injection e with e2 e
  injection e1 with e1
  obtain ⟨rfl, rfl, rfl⟩ := shD_inj e2
  rw [q, show n = k' by omega], fun _ _ q => q⟩
local macro_rules | `(tactic| walk_at "cal") => `(tactic| (apply cl_over_check <;> first | assumption | omega | skip))
theorem ok_over_check (T : Txt K mg) : FnOk P w K mg base (L2.CX P w) 9 T.f_over_check T.fd_over_check ["number", "shape"] (SpD K fd_over_check) := by
  refine fn_data (dvs := []) (kws := []) (N := N_over_check) (.inr T.F_over_check) sc_over_check rfl (fun cdv A outer s H E hr tk => ?_)
  refine ⟨_, (pss_cons (ps_asg (pv 1) (g_tup (K := K) (n := 3) rfl rfl (pgs_cons (pg_name (i := 2) sc_over_check.nd rfl (Or.inl rfl)) (pgs_cons (pg_name (i := 3) sc_over_check.nd rfl (Or.inl rfl)) (pgs_cons (pg_name (i := 4) sc_over_check.nd rfl (Or.inl rfl)) pgs_nil)))))
      (pss_cons (ps_set (i := 5) sc_over_check.nd rfl (Or.inl rfl) (pe_op g_mul (pe_lst (pa_cons pe_int pa_nil)) (pe_cl0 (m := 1) (ok_count T) (hr.mono (by decide)) rfl T.g_count T.k_count T.b_count_0_shape (passD tk) (pk_cons (pv 1) pk_nil))))
      (pss_cons (ps_for (passes_of rfl) rfl (g_list (K := K) rfl (pe_cl0 (m := 1) (ok_data_places T) (hr.mono (by decide)) rfl T.g_data_places T.k_data_places T.b_data_places_0_shape (passD tk) (pk_cons (pv 1) pk_nil))) (pg_name (i := 6) sc_over_check.nd rfl (Or.inl rfl)) (pss_one (ps_asg (pe_cl (m := 0) (ok_power T) (hr.mono (by decide)) rfl T.g_power T.k_power T.b_power (passD tk) (pa_cons (pe_cl (m := 1) (ok_mark T) (hr.mono (by decide)) rfl T.g_mark T.k_mark T.b_mark_1_shape (passD tk) (pa_cons (pv 6) pa_nil) (pk_cons (pv 1) pk_nil)) (pa_cons (pv 0) pa_nil)) pk_nil) (pg_sub (pv 5) (pv 6) (g_set hr)))))
      (pss_cons (ps_asg (pe_op g_sub (pe_glob (v := .int 97) rfl T.c_PRIME ⟨_, rfl⟩) pe_int) (pg_sub (pv 5) (pe_op g_sub (pe_op (g_add (K := K) rfl) (pe_op g_mul (pv 2) (pe_op (g_add (K := K) rfl) (pv 3) pe_int)) (pv 0)) pe_int) (g_set hr)))
      (pss_one (ps_ret (pv 5))))))), fun ds N' b hl hd acc => ?_⟩
  obtain ⟨n, g, s, u, rfl, h, hn⟩ := hd
  obtain ⟨⟨g0, g1⟩, ⟨s0, s1⟩, u1⟩ := h.nat
  have hm := h.many
  have hmi : ((g : Int) * ((s : Int) + 1) + u) = ((many g s u : Nat) : Int) := by unfold many; push_cast; rfl
  have hmm : many g s u = g * (s + 1) + u := rfl
  have lS : ∀ i, (ovS g s u (n + 1) i).length = many g s u := fun i => by simp [ovS]
  have ldp : (dataP g s).length ≤ 16 := by rw [dataP_len]; exact Nat.mul_le_mul g1 s1
  refine w_seq (w_tg (by walk_at "ev") (by walk_at "tg") (w_seq ?_))
  refine w_ownE (xs := iL (ovS g s u (n + 1) 0)) (by
    have e : iL (ovS g s u (n + 1) 0) = (List.replicate ((many g s u : Nat) : Int).toNat [D.int 0]).flatten := by
      rw [rep_one, Int.toNat_natCast, ovS_zero]
      exact List.map_replicate ..
    rw [e]
    exact eo_rep (by walk_at "ev") (EvD.eq (by walk_at "ev") (by rw [hmi])) (by omega) (by show 1 * _ ≤ 100000; omega)) ?_
  refine w_seq (w_for allV (fun i ds b' => ∃ s6 : Sd, ds = [.dat (.int ((n : Int) + 1)), .dat (shD g s u), .dat (.int g), .dat (.int s), .dat (.int u), .own (iL (ovS g s u (n + 1) i)), s6] ∧ b' = fd_over_check.cost [.int ((n : Int) + 1), shD g s u] + b) (ei_list (by walk_at "ev")) ⟨_, rfl, by rfl⟩ ?_ ?_)
  · rintro i ds' b' hi ⟨s6, rfl, rfl⟩
    rw [iL_len] at hi
    simp only [Int.toNat_natCast] at hi ⊢
    obtain ⟨p, hp⟩ := dataP_nat (List.getElem_mem hi)
    have hmem : (p : Int) ∈ dataP g s := by rw [← hp]; exact List.getElem_mem hi
    obtain ⟨q1, q2⟩ := mem_dataP.mp hmem
    have e : (dataP g s).getD i 0 = (p : Int) := by rw [List.getD_eq_getElem?_getD, List.getElem?_eq_getElem hi, hp]; rfl
    rw [getD_iL hi, e]
    refine ⟨_, tg_name, ?_⟩
    have d1 : (p : Int) / ((s : Int) + 1) = ((p / (s + 1) : Nat) : Int) := by push_cast; rfl
    have d2 : (p : Int) % ((s : Int) + 1) = ((p % (s + 1) : Nat) : Int) := by push_cast; rfl
    have d3 : p / (s + 1) < g := (Nat.div_lt_iff_lt_mul (by omega)).mpr q1
    have c1 := cl_mark (C1 := T.t_NoShape) (C2 := T.t_NoPlace) (p := p) h (by omega) (by rw [d1]; omega) (by rw [d2]; omega)
    refine w_setO rfl (d := .int (pw (markV s p) (n + 1))) (EvD.eq (ev_cal (es := [.int (markV s p), .int ((n : Int) + 1)]) (ea_cons (ev_calK (es := [.int p]) (fs := [shD g s u]) (by walk_at "ev") (by walk_at "ev") c1 rfl rfl) (by walk_at "ev")) (cl_power (by omega)) rfl) (by congr 2)) (by walk_at "ev") (by omega) (by rw [iL_len, lS]; omega) ?_
    refine ⟨.dat (.int p), ?_, rfl⟩
    rw [Int.toNat_natCast, ← ovS_step hi hp]
    simp only [iL, List.map_set]
    rfl
  · rintro ds' b' ⟨s6, rfl, rfl⟩
    rw [iL_len]
    simp only [Int.toNat_natCast]
    refine w_seq (w_setO (k := ((g * (s + 1) + n : Nat) : Int)) rfl (by walk_at "ev") (EvD.eq (by walk_at "ev") (by congr 1 <;> push_cast <;> omega)) (by omega) (by rw [iL_len, lS]; omega) ?_)
    refine w_retO rfl ?_
    refine ⟨by walk_at "b", n, g, s, u, rfl, ?_⟩
    rw [Int.toNat_natCast, ← ovS_end hn]
    simp only [iL, List.map_set]
    rfl

--OPT fdarg T.t_NoShape
abbrev rL (rs : List (List Int)) : List D := rs.map fun r => .lst (iL r)
def fd_checks (C : Addr) : Fd := { n := 1, dom := fun ds => ∃ d : D, ds = [d] ∧ plainT d, res := fun ds r => ∃ g s u : Nat, ds = [shD g s u] ∧ ShOk g s u ∧ r = .lst (rL (rowsV g s u)), exn := fun ds X fs => ∃ d : D, ds = [d] ∧ exS C d X fs, own := true, own2 := 1 }
theorem cl_checks {C : Addr} {g s u : Nat} (h : ShOk g s u) : Cal (fd_checks C) [shD g s u] (.lst (rL (rowsV g s u))) := ⟨rfl, ⟨_, rfl, plainT_sh g s u⟩, rfl, fun d ⟨g', s', u', e, q1, q2⟩ => by
  injection e with e2 e
  obtain ⟨rfl, rfl, rfl⟩ := shD_inj e2
  exact q2, fun X fs ⟨d', e, q⟩ => by
  cases e
  exact exS_no h q⟩
theorem rowsV_len (g s u : Nat) : (rowsV g s u).length = g + u := by simp [rowsV]
local macro_rules | `(tactic| walk_at "cal") => `(tactic| (apply cl_checks <;> first | assumption | omega | skip))
theorem ok_checks (T : Txt K mg) : FnOk P w K mg base (L2.CX P w) 10 T.f_checks T.fd_checks ["shape"] (SpD K (fd_checks T.t_NoShape)) := by
  refine fn_data (N := N_checks) (.inl T.F_checks) sc_checks rfl (fun cdv A outer s H E hr tk => ?_)
  refine ⟨_, (pss_cons (ps_expr (pe_cl (m := 0) (ok_need_shape T) (hr.mono (by decide)) rfl T.g_need_shape T.k_need_shape T.b_need_shape (passD tk) (pa_cons (pv 0) pa_nil) pk_nil))
      (pss_cons (ps_asg (pv 0) (g_tup (K := K) (n := 3) rfl rfl (pgs_cons (pg_name (i := 1) sc_checks.nd rfl (Or.inl rfl)) (pgs_cons (pg_name (i := 2) sc_checks.nd rfl (Or.inl rfl)) (pgs_cons (pg_name (i := 3) sc_checks.nd rfl (Or.inl rfl)) pgs_nil)))))
      (pss_cons (ps_setLc (i := 4) (own := [("group", 5)]) rfl sc_checks.nd rfl rfl (sw_true rfl rfl rfl (by decide +kernel)) (pi_range1 rfl T.b_range (pa_cons (pv 1) pa_nil)) (blkOk_by (own := [("group", 5)]) (N := N_checks) (sc := defScope s_checks) (by decide +kernel)) (fun _ _ _ _ _ => (pg_name (i := 5) sc_checks.nd rfl (Or.inl rfl))) (fun _ _ _ _ _ => pts_nil) (fun _ _ _ _ _ => (pe_cl (m := 0) (ok_local_check T) (hr.mono (by decide)) rfl T.g_local_check T.k_local_check T.b_local_check pass_never (pa_cons (pv 5) (pa_cons (pv 0) pa_nil)) pk_nil)))
      (pss_one (ps_ret (pe_op (g_add (K := K) rfl) (pv 4) (pe_lc (own := [("number", 6)]) rfl sc_checks.nd (pi_range2 rfl T.b_range (pa_cons pe_int (pa_cons (pe_op (g_add (K := K) rfl) (pv 3) pe_int) pa_nil))) (blkOk_by (own := [("number", 6)]) (N := N_checks) (sc := defScope s_checks) (by decide +kernel)) (fun _ _ _ _ _ => (pg_name (i := 6) sc_checks.nd rfl (Or.inl rfl))) (fun _ _ _ _ _ => pts_nil) (fun _ _ _ _ _ => (pe_cl (m := 0) (ok_over_check T) (hr.mono (by decide)) rfl T.g_over_check T.k_over_check T.b_over_check pass_never (pa_cons (pv 6) (pa_cons (pv 0) pa_nil)) pk_nil))))))))), fun ds N' b hl hd acc => ?_⟩
  obtain ⟨d, rfl, hp⟩ := hd
  refine w_seq (ws_drop (b' := (fd_checks T.t_NoShape).cost [d] + b) (evs_calX (es := [d]) (by walk_at "ev") rfl rfl ⟨d, rfl, hp⟩ (Nat.le_of_eq (Nat.zero_add _)) acc (fun z => nomatch z) fun C x ⟨d', e, q⟩ => by cases e; exact ⟨Nat.le_add_left _ _, d, rfl, q⟩) fun r ⟨d', e, h', _⟩ => ?_)
  cases e
  obtain ⟨g, s, u, rfl, h⟩ := isShape_inv h'
  obtain ⟨⟨g0, g1⟩, ⟨s0, s1⟩, u1⟩ := h.nat
  refine w_seq ?_
  refine w_tg (by walk_at "ev") (by walk_at "tg") ?_
  have flat : ∀ (v : List Int) (y : D), y ∈ iL v → flatD y = true := fun v y hy => by
    obtain ⟨z, _, rfl⟩ := List.mem_map.mp hy; rfl
  refine w2_start (eo2_lc (fun k => iL (locR g s u k)) (ei_r1 (p := true) (n := (g : Int)) (by walk_at "ev") (by omega)) (by omega) (fun i y _ hy => flat _ y hy) fun i hi => ⟨_, tg_name, fun b0 => ?_⟩) (by exact (by decide : 4 < 7)) (fun yss e => ?_)
  · exact eo_cal (by walk_at "ev") (cl_local_check h (by omega)) rfl
  subst e
  refine w2_retCat (eo2_lc (fun n => iL (ovR g s u (n + 1))) (ei_r2 (p := true) (m := 1) (n := (u : Int) + 1) (by walk_at "ev") (by omega)) (by omega) (fun i y _ hy => flat _ y hy) fun i hi => ⟨_, tg_name, fun b0 => ?_⟩) (fun zss e => ?_) (fun zss e => ?_)
  · exact eo_cal (EaD.eq (by walk_at "ev") (by rw [Int.add_comm])) (cl_over_check h (by omega)) rfl
  · subst e
    simp only [List.length_map, List.length_range]
    omega
  · subst e
    refine ⟨by walk_at "b", g, s, u, rfl, h, ?_⟩
    rw [show ((u : Int) + 1 - 1).toNat = u by omega, Int.toNat_natCast]
    simp [rL, rowsV, iL, List.map_map, Function.comp_def]

def fd_filled : Fd := { n := 2, dom := fun ds => ∃ (g s u : Nat) (data : List Int), ds = [.lst (iL data), shD g s u] ∧ ShOk g s u ∧ data.length = g * s ∧ ∀ x ∈ data, x.natAbs < 2 ^ 250, res := fun ds d => ∃ (g s u : Nat) (data : List Int), ds = [.lst (iL data), shD g s u] ∧ d = .lst (iL (fillV g s u data)), own := true }
theorem cl_filled {g s u : Nat} {data : List Int} (h : ShOk g s u) (hl : data.length = g * s) (hb : ∀ x ∈ data, x.natAbs < 2 ^ 250) : Cal fd_filled [.lst (iL data), shD g s u] (.lst (iL (fillV g s u data))) := ⟨rfl, ⟨g, s, u, data, rfl, h, hl, hb⟩, rfl, fun d ⟨g', s', u', dt, e, q⟩ => by
  injection e with e3 e
  injection e with e2 e
  obtain ⟨rfl, rfl, rfl⟩ := shD_inj e2
  injection e3 with e3
  rw [q, iL_inj e3], fun _ _ q => q⟩
theorem flat_range {α : Type} (f : Nat → Nat → α) (s : Nat) : ∀ g : Nat, ((List.range g).flatMap fun i => (List.range s).map (f i)) = (List.range (g * s)).map fun p => f (p / s) (p % s)
  | 0 => by simp
  | g + 1 => by
    rw [List.range_succ, List.flatMap_append, flat_range f s g, Nat.add_mul, Nat.one_mul, List.range_add, List.map_append, List.map_map]
    congr 1
    simp only [List.flatMap_cons, List.flatMap_nil, List.append_nil]
    refine List.map_congr_left fun j hj => ?_
    have hj := List.mem_range.mp hj
    show f g j = f ((g * s + j) / s) ((g * s + j) % s)
    rw [dv g s j hj, md g s j hj]
theorem flat2_len' (m : Nat) (f : Nat → Nat → D) : ∀ i, (flat2 (fun _ => m) (fun _ _ => true) f i).length = i * m
  | 0 => by simp [flat2]
  | i + 1 => by
    rw [flat2_step, List.length_append, flat2_len' m f i, Nat.add_mul, Nat.one_mul, List.length_map, List.filter_eq_self.mpr (fun _ _ => rfl), List.length_range]
def marksL (g s : Nat) : List Int := (List.range (g * s)).map fun p => sgn (p / s) (p % s)
/-- the first n numbers of the filling -/
def fillT' (g s : Nat) (data : List Int) (n : Nat) : List Int := (List.range n).map (fillF g s fun i => data.getD i 0)
theorem cutD' {data : List Int} {g s i : Nat} (hi : i < g) (hl : data.length = g * s) : slcD (iL data) (some ((i * s : Nat) : Int)) (some ((i * s + s : Nat) : Int)) = iL ((List.range s).map fun j => data.getD (i * s + j) 0) := by
  have hb : (i + 1) * s ≤ g * s := Nat.mul_le_mul_right s hi
  rw [Nat.add_mul, Nat.one_mul] at hb
  unfold slcD
  rw [iL_len, HT.sIx_nat, HT.sIx_nat]
  have e1 : min (i * s) data.length = i * s := by omega
  have e2 : min (i * s + s) data.length = i * s + s := by omega
  rw [e1, e2, show i * s + s - i * s = s by omega]
  simp only [iL, ← List.map_drop, ← List.map_take]
  congr 1
  apply List.ext_getElem
  · simp; omega
  · intro j h1 h2
    have hj : j < s := by simpa using h2
    have q : i * s + j < data.length := by omega
    rw [List.getElem_take, List.getElem_drop, List.getElem_map, List.getElem_range, List.getD_eq_getElem?_getD, List.getElem?_eq_getElem q]
    rfl
theorem fillT_step' {g s i : Nat} {data : List Int} (hi : i < g) : fillT' g s data (i * (s + 1)) ++ ((List.range s).map (fun j => data.getD (i * s + j) 0) ++ [sm s (fun j => data.getD (i * s + j) 0) % 97]) = fillT' g s data ((i + 1) * (s + 1)) := by
  unfold fillT'
  rw [Nat.add_mul, Nat.one_mul, List.range_add, List.map_append]
  congr 1
  rw [List.range_succ, List.map_append, List.map_append, List.map_map]
  congr 1
  · apply List.map_congr_left
    intro j hj
    exact (fill_data (dt := fun i => data.getD i 0) hi (List.mem_range.mp hj)).symm
  · show _ = [fillF g s _ (i * (s + 1) + s)]
    rw [fill_loc hi]
theorem getD_abs' {v : List Int} (h : ∀ x ∈ v, x.natAbs < 2 ^ 250) (i : Nat) : (v.getD i 0).natAbs < 2 ^ 250 := by
  rw [List.getD_eq_getElem?_getD]
  cases e : v[i]? with
  | none => decide
  | some n => exact h n (List.mem_of_getElem? e)
theorem pw_mod (x : Int) (n : Nat) (y : Int) : (pw x n * y) % 97 % 97 = (x ^ n * y) % 97 := by
  unfold pw
  rw [Int.emod_emod_of_dvd _ (Int.dvd_refl 97), Int.mul_emod, Int.emod_emod_of_dvd _ (Int.dvd_refl 97), ← Int.mul_emod]
theorem fillT_over {g s n : Nat} {data : List Int} : fillT' g s data (g * (s + 1) + n) ++ [(0 + sm (g * s) fun k => pw (sgn (k / s) (k % s)) (n + 1) * data.getD k 0 % 97) % 97] = fillT' g s data (g * (s + 1) + (n + 1)) := by
  unfold fillT'
  rw [← Nat.add_assoc, List.range_succ, List.map_append]
  congr 1
  show _ = [fillF g s _ (g * (s + 1) + n)]
  rw [fill_ov, Int.zero_add]
  congr 1
  rw [sm_mul]
  refine sm_mod fun i hi => sm_mod fun j hj => ?_
  rw [dv i s j hj, md i s j hj]
  exact pw_mod _ _ _
theorem ok_filled (T : Txt K mg) : FnOk P w K mg base (L2.CX P w) 2 T.f_filled T.fd_filled ["data", "shape"] (SpD K fd_filled) := by
  have kP_MARKS := T.p_MARKS
  have kD_MARKS := T.q_MARKS
  refine fn_data (dvs := []) (kws := []) (N := N_filled) (.inr T.F_filled) sc_filled rfl (fun cdv A outer s H E hr tk => ?_)
  refine ⟨_, (pss_cons (ps_asg (pv 1) (g_tup (K := K) (n := 3) rfl rfl (pgs_cons (pg_name (i := 2) sc_filled.nd rfl (Or.inl rfl)) (pgs_cons (pg_name (i := 3) sc_filled.nd rfl (Or.inr rfl)) (pgs_cons (pg_name (i := 4) sc_filled.nd rfl (Or.inl rfl)) pgs_nil)))))
      (pss_cons (ps_setLc2 (i := 5) (own := [("first", 10), ("at", 11)]) (vs1 := [11]) rfl sc_filled.nd rfl rfl (sw_true rfl rfl rfl (by decide +kernel)) (g_tuple (K := K) rfl (pe_slice (g_slice (K := K) rfl) (pe_glob (v := .ref T.t_MARKS) rfl T.c_MARKS rfl) po_none (po_some (pv 2)))) (blkOk_by (own := [("first", 10), ("at", 11)]) (N := N_filled) (sc := defScope s_filled) (by decide +kernel)) (by decide) (fun _ _ _ _ _ => (pg_name (i := 10) sc_filled.nd rfl (Or.inl rfl))) (fun _ _ _ _ _ => pts_nil) (fun _ _ _ _ _ => (pi_range1 rfl T.b_range (pa_cons (pv 3) pa_nil))) (fun _ _ _ _ _ => (pg_name (i := 11) sc_filled.nd rfl (Or.inl rfl))) (fun _ _ _ _ _ => pts_nil) (fun _ _ _ _ _ => (pe_op (g_add (K := K) rfl) (pv 10) (pv 11))))
      (pss_cons (ps_set (i := 6) sc_filled.nd rfl (Or.inl rfl) (pe_lst pa_nil))
      (pss_cons (ps_for (passes_of rfl) rfl (pi_range1 rfl T.b_range (pa_cons (pv 2) pa_nil)) (pg_name (i := 7) sc_filled.nd rfl (Or.inl rfl)) (pss_cons (ps_set (i := 8) sc_filled.nd rfl (Or.inl rfl) (pe_callTy (g_listof (K := K) rfl) rfl T.b_list boot_list (pa_cons (pe_slice (g_slice (K := K) rfl) (pv 0) (po_some (pe_op g_mul (pv 7) (pv 3))) (po_some (pe_op (g_add (K := K) rfl) (pe_op g_mul (pv 7) (pv 3)) (pv 3)))) pa_nil)))
      (pss_one (ps_expr (g_bm (K := K) rfl PySem.F.plainAttrs_list PySem.F.slot_list_extend PySem.F.type_list_extend g_extend (pv 6) (pa_cons (pe_op (g_add (K := K) rfl) (pv 8) (pe_lst (pa_cons (pe_cl (m := 0) (ok_plus T) (hr.mono (by decide)) rfl T.g_plus T.k_plus T.b_plus (passD tk) (pa_cons pe_int (pa_cons (pe_callB (g_sum (K := K) rfl rfl) rfl T.b_sum boot_sum (pa_cons (pv 8) pa_nil)) pa_nil)) pk_nil) pa_nil))) pa_nil))))))
      (pss_cons (ps_for (passes_of rfl) rfl (pi_range2 rfl T.b_range (pa_cons pe_int (pa_cons (pe_op (g_add (K := K) rfl) (pv 4) pe_int) pa_nil))) (pg_name (i := 9) sc_filled.nd rfl (Or.inr rfl)) (pss_one (ps_expr (g_bm (K := K) rfl PySem.F.plainAttrs_list PySem.F.slot_list_append PySem.F.type_list_append g_append (pv 6) (pa_cons (pe_cl (m := 0) (ok_plus T) (hr.mono (by decide)) rfl T.g_plus T.k_plus T.b_plus (passD tk) (pa_cons pe_int (pa_cons (pe_callB (g_sum (K := K) rfl rfl) rfl T.b_sum boot_sum (pa_cons (pe_lc (own := [("one", 12), ("other", 13)]) rfl sc_filled.nd (g_zip (K := K) rfl rfl T.b_zip (pa_cons (pv 5) (pa_cons (pv 0) pa_nil))) (blkOk_by (own := [("one", 12), ("other", 13)]) (N := N_filled) (sc := defScope s_filled) (by decide +kernel)) (fun _ _ _ _ _ => (g_tup (K := K) (n := 2) rfl rfl (pgs_cons (pg_name (i := 12) sc_filled.nd rfl (Or.inl rfl)) (pgs_cons (pg_name (i := 13) sc_filled.nd rfl (Or.inl rfl)) pgs_nil)))) (fun _ _ _ _ _ => pts_nil) (fun _ _ _ _ _ => (pe_cl (m := 0) (ok_times T) (hr.mono (by decide)) rfl T.g_times T.k_times T.b_times pass_never (pa_cons (pe_cl (m := 0) (ok_power T) (hr.mono (by decide)) rfl T.g_power T.k_power T.b_power pass_never (pa_cons (pv 12) (pa_cons (pv 9) pa_nil)) pk_nil) (pa_cons (pv 13) pa_nil)) pk_nil))) pa_nil)) pa_nil)) pk_nil) pa_nil)))))
      (pss_one (ps_ret (pv 6)))))))), fun ds N' b hl hd acc => ?_⟩
  obtain ⟨g, s, u, data, rfl, h, hl, hb⟩ := hd
  obtain ⟨⟨g0, g1⟩, ⟨s0, s1⟩, u1⟩ := h.nat
  have hm := h.many
  have hmm : many g s u = g * (s + 1) + u := rfl
  have hgs : g * s ≤ 16 := Nat.mul_le_mul g1 s1
  refine w_seq (w_tg (by walk_at "ev") (by walk_at "tg") (w_seq ?_))
  have hcut : (slcD [D.int 1, .int 11, .int 40, .int 30] none (some (g : Int))).length = g ∧ ∀ i, i < g → (slcD [D.int 1, .int 11, .int 40, .int 30] none (some (g : Int))).getD i .non = .int ([1, 11, 40, 30].getD i 0) := by
    have hk : g = 1 ∨ g = 2 ∨ g = 3 ∨ g = 4 := by omega
    rcases hk with rfl | rfl | rfl | rfl
    · exact ⟨rfl, fun i hi => by have : i = 0 := by omega
                                 subst this; rfl⟩
    · exact ⟨rfl, fun i hi => by have : i = 0 ∨ i = 1 := by omega
                                 rcases this with rfl | rfl <;> rfl⟩
    · exact ⟨rfl, fun i hi => by have : i = 0 ∨ i = 1 ∨ i = 2 := by omega
                                 rcases this with rfl | rfl | rfl <;> rfl⟩
    · exact ⟨rfl, fun i hi => by have : i = 0 ∨ i = 1 ∨ i = 2 ∨ i = 3 := by omega
                                 rcases this with rfl | rfl | rfl | rfl <;> rfl⟩
  have hsi : ((s : Int)).toNat = s := Int.toNat_natCast s
  refine w_asg (d := .lst (iL (marksL g s))) (EvD.eq (EvO.evd (eo_lc2 (fun _ => ((s : Int)).toNat) (fun _ j => .int (j : Int)) (fun _ _ => true) (fun i j => .int (sgn i j)) (ei_tup (xs := slcD [D.int 1, .int 11, .int 40, .int 30] none (some (g : Int))) (ev_slice (by walk_at "ev") ep_none (ep_some (by walk_at "ev")) sl_T)) ?_ fun i hi => ⟨_, tg_name, ?_, fun b0 => ei_r1 (p := false) (n := (s : Int)) (by walk_at "ev") (by omega), fun j hj => ⟨_, tg_name, fun b0 => ⟨et_yes, fun _ => ?_⟩⟩⟩)) ?_) (w_seq ?_)
  · intro i j hi hj
    rw [hcut.1] at hi
    rw [List.length_append, flat2_len', List.length_map, List.filter_eq_self.mpr (fun _ _ => rfl), List.length_range]
    have q : i * ((s : Int)).toNat ≤ 4 * 4 := Nat.mul_le_mul (by omega) (by omega)
    omega
  · intro x hx
    have q := List.all_eq_true.mp (show (List.all _ fun s => !isOwn s) = true from rfl) x hx
    simpa using q
  · rw [hcut.1] at hi
    exact ev_op (x := .int ([1, 11, 40, 30].getD i 0)) (y := .int (j : Int)) (EvD.eq (by walk_at "ev") (by rw [hcut.2 i hi])) (by walk_at "ev") o_add
  · rw [hcut.1, hsi]
    unfold flat2 marksL
    rw [← flat_range sgn s g]
    unfold iL
    rw [List.map_flatMap]
    congr 1
    congr 1
    funext i
    rw [List.filter_eq_self.mpr (fun _ _ => rfl), List.map_map]
    rfl
  have hts : ∀ n, n ≤ g * (s + 1) + u → (fillT' g s data n).length ≤ 22 := fun n hn => by
    unfold fillT'
    rw [List.length_map, List.length_range]
    omega
  refine w_ownE (xs := []) (EvO.imp (eo_lst ea_nil) fun xs e => e) (w_seq ?_)
  refine w_for allV (fun i ds b' => ∃ s7 s8 s9 s10 s11 s12 s13 : Sd, ds = [.dat (.lst (iL data)), .dat (shD g s u), .dat (.int g), .dat (.int s), .dat (.int u), .dat (.lst (iL (marksL g s))), .own (iL (fillT' g s data (i * (s + 1)))), s7, s8, s9, s10, s11, s12, s13] ∧ b' = fd_filled.cost [.lst (iL data), shD g s u] + b) (ei_r1 (n := (g : Int)) (by walk_at "ev") (by omega)) ⟨_, _, _, _, _, _, _, by rw [Nat.zero_mul]; rfl, by rfl⟩ ?_ ?_
  · rintro i ds' b' hi ⟨s7, s8, s9, s10, s11, s12, s13, rfl, rfl⟩
    rw [Int.toNat_natCast] at hi
    have hbb := blk_lt (b := s) hi (show s - 1 < s by omega)
    have hb2 : (i + 1) * (s + 1) ≤ g * (s + 1) := Nat.mul_le_mul_right _ hi
    have hb3 : i * (s + 1) ≤ (i + 1) * (s + 1) := Nat.mul_le_mul_right _ (Nat.le_succ i)
    refine ⟨_, tg_name, ?_⟩
    have e1 : ((i : Int) * (s : Int)) = ((i * s : Nat) : Int) := by push_cast; rfl
    refine w_seq (w_asg (d := .lst (iL ((List.range s).map fun j => data.getD (i * s + j) 0))) (ev_cb (es := [.lst (iL ((List.range s).map fun j => data.getD (i * s + j) 0))]) (ea_cons (by
      rw [← cutD' hi hl]
      exact ev_slice (by walk_at "ev") (ep_some (EvD.eq (by walk_at "ev") (by rw [e1]))) (ep_some (EvD.eq (by walk_at "ev") (by rw [e1]; push_cast; rfl))) sl_L) ea_nil) (c_listof rfl)) ?_)
    have hsum : ((List.range s).map fun j => data.getD (i * s + j) 0).sum = sm s (fun j => data.getD (i * s + j) 0) := sm_range _ _
    refine w_ext (b' := fd_filled.cost [.lst (iL data), shD g s u] + b) (ys := iL ((List.range s).map (fun j => data.getD (i * s + j) 0) ++ [sm s (fun j => data.getD (i * s + j) 0) % 97])) rfl ?_ ?_ ?_
    · rw [iL_app]
      refine ev_op (x := .lst (iL ((List.range s).map fun j => data.getD (i * s + j) 0))) (y := .lst [.int (sm s (fun j => data.getD (i * s + j) 0) % 97)]) (by walk_at "ev") (ev_lst (ea_cons (EvD.eq (ev_cal (es := [.int 0, .int (sm s (fun j => data.getD (i * s + j) 0))]) (ea_cons (by walk_at "ev") (ea_cons (EvD.eq (ev_cb (ea_cons (by walk_at "ev") ea_nil) (c_sumL (ns := (List.range s).map fun j => data.getD (i * s + j) 0) rfl)) (by rw [hsum])) ea_nil)) cl_plus rfl) (by rw [Int.zero_add])) ea_nil) (by show 1 ≤ 100000; decide)) (o_catL (by rw [iL_len]; simp; omega))
    · rw [iL_len, iL_len, List.length_append, List.length_map, List.length_range]
      have := hts (i * (s + 1)) (by omega)
      show _ + (s + 1) ≤ 100000
      omega
    · have e : iL (fillT' g s data ((i + 1) * (s + 1))) = iL (fillT' g s data (i * (s + 1))) ++ iL ((List.range s).map (fun j => data.getD (i * s + j) 0) ++ [sm s (fun j => data.getD (i * s + j) 0) % 97]) := by rw [← fillT_step' hi, iL_app]
      rw [e]
      exact ⟨_, _, _, _, _, _, _, rfl, rfl⟩
  · rintro ds' b' ⟨s7, s8, s9, s10, s11, s12, s13, rfl, rfl⟩
    rw [Int.toNat_natCast]
    refine w_seq (w_for allV (fun n ds b' => ∃ s7 s8 s9 s10 s11 s12 s13 : Sd, ds = [.dat (.lst (iL data)), .dat (shD g s u), .dat (.int g), .dat (.int s), .dat (.int u), .dat (.lst (iL (marksL g s))), .own (iL (fillT' g s data (g * (s + 1) + n))), s7, s8, s9, s10, s11, s12, s13] ∧ b' = fd_filled.cost [.lst (iL data), shD g s u] + b) (ei_r2 (m := 1) (n := (u : Int) + 1) (by walk_at "ev") (by omega)) ⟨_, _, _, _, _, _, _, rfl, by rfl⟩ ?_ ?_)
    · rintro n ds' b' hn ⟨s7, s8, s9, s10, s11, s12, s13, rfl, rfl⟩
      have hn' : n < u := by omega
      refine ⟨_, tg_name, ?_⟩
      have lm : (marksL g s).length = g * s := by simp [marksL]
      have hd0 : fillT' g s data (g * (s + 1) + (n + 1)) = fillT' g s data (g * (s + 1) + n) ++ [(0 + sm (g * s) fun k => pw (sgn (k / s) (k % s)) (n + 1) * data.getD k 0 % 97) % 97] := fillT_over.symm
      refine w_app (b' := fd_filled.cost [.lst (iL data), shD g s u] + b) (d := .int ((0 + sm (g * s) fun k => pw (sgn (k / s) (k % s)) (n + 1) * data.getD k 0 % 97) % 97)) rfl ?_ (by
        rw [iL_len]
        have := hts (g * (s + 1) + n) (by omega)
        omega) ?_
      rotate_left
      · have e : iL (fillT' g s data (g * (s + 1) + (n + 1))) = iL (fillT' g s data (g * (s + 1) + n)) ++ [.int ((0 + sm (g * s) fun k => pw (sgn (k / s) (k % s)) (n + 1) * data.getD k 0 % 97) % 97)] := by rw [hd0, iL_app]; rfl
        rw [e]
        exact ⟨_, _, _, _, _, _, _, rfl, rfl⟩
      refine ev_cal (es := [.int 0, .int (sm (g * s) fun k => pw (sgn (k / s) (k % s)) (n + 1) * data.getD k 0 % 97)]) (ea_cons (by walk_at "ev") (ea_cons (EvD.eq (ev_cb (ea_cons (EvD.wk (ev_lc1 (fun k => .int (pw (sgn (k / s) (k % s)) (n + 1) * data.getD k 0 % 97)) (ei_zip (xs := iL (marksL g s)) (ys := iL data) (by walk_at "ev")) (by rw [iL_len, iL_len]; omega) fun k hk => ?_)) ea_nil) (c_sumL (ns := (List.range (g * s)).map fun k => pw (sgn (k / s) (k % s)) (n + 1) * data.getD k 0 % 97) ?_)) ?_) ea_nil)) cl_plus rfl
      · have hk' : k < g * s := by rw [iL_len, iL_len] at hk; omega
        rw [getD_iL (by omega), getD_iL (by omega)]
        have em : (marksL g s).getD k 0 = sgn (k / s) (k % s) := getD_mapR _ hk'
        rw [em]
        have q1 : (pw (sgn (k / s) (k % s)) (n + 1)).natAbs < 2 ^ 7 := by
          unfold pw
          have a := Int.emod_nonneg (sgn (k / s) (k % s) ^ (n + 1)) (show (97 : Int) ≠ 0 by decide)
          have c := Int.emod_lt_of_pos (sgn (k / s) (k % s) ^ (n + 1)) (show (0 : Int) < 97 by decide)
          omega
        have q2 := getD_abs' hb k
        have cm : CMulW (pw (sgn (k / s) (k % s)) (n + 1)) (data.getD k 0) := cmul_of 7 250 q1 q2
        have en : ((1 : Int) + (n : Int)).toNat = n + 1 := by omega
        have cp : Cal fd_power [.int (sgn (k / s) (k % s)), .int (1 + (n : Int))] (.int (pw (sgn (k / s) (k % s)) (n + 1))) := by
          have q := cl_power (i := sgn (k / s) (k % s)) (n := 1 + (n : Int)) (by omega)
          rw [en] at q
          exact q
        exact ⟨_, by walk_at "tg", fun b0 => ev_cal (es := [.int (pw (sgn (k / s) (k % s)) (n + 1)), .int (data.getD k 0)]) (ea_cons (ev_cal (by walk_at "ev") cp rfl) (by walk_at "ev")) (cl_times cm) rfl⟩
      · rw [iL_len, iL_len, lm, hl, Nat.min_self, List.map_map]
        rfl
      · rw [sm_range]
    · rintro ds' b' ⟨s7, s8, s9, s10, s11, s12, s13, rfl, rfl⟩
      have eu : ((u : Int) + 1 - 1).toNat = u := by omega
      rw [eu]
      exact w_retO (i := 6) rfl ⟨by walk_at "b", g, s, u, data, rfl, rfl⟩

--OPT fdarg T.t_NoShape
def fillB (g s u : Nat) : D → Bool
  | .lst xs => decide (xs.length = many g s u) && (xs.all isNum && keepsV g s u (xs.map toI))
  | _ => false
theorem fillB_ints {g s u : Nat} {v : List Int} (hv : v.length = many g s u) (h : ∀ x ∈ v, 0 ≤ x ∧ x < 97) : fillB g s u (.lst (iL v)) = keepsV g s u v := by
  unfold fillB
  have e1 : (iL v).all isNum = true := by
    rw [List.all_eq_true]
    intro x hx
    obtain ⟨y, hy, rfl⟩ := List.mem_map.mp hx
    have q := h y hy
    show (decide (0 ≤ y) && decide (y < 97)) = true
    rw [decide_eq_true q.1, decide_eq_true q.2]; rfl
  have e2 : (iL v).map toI = v := by
    unfold iL
    rw [List.map_map]
    exact List.map_id' v
  show (decide ((iL v).length = many g s u) && ((iL v).all isNum && keepsV g s u ((iL v).map toI))) = _
  rw [e1, e2, iL_len, decide_eq_true hv]; rfl
theorem all_num {xs : List D} (h : xs.all isNum = true) : ∃ v : List Int, xs = iL v ∧ ∀ x ∈ v, 0 ≤ x ∧ x < 97 := by
  refine ⟨xs.map toI, ?_, ?_⟩
  · unfold iL
    rw [List.map_map]
    have e : xs.map (D.int ∘ toI) = xs.map id := List.map_congr_left fun x hx => by
      have q := List.all_eq_true.mp h x hx
      cases x <;> first | rfl | cases q
    rw [e, List.map_id]
  · intro y hy
    obtain ⟨x, hx, rfl⟩ := List.mem_map.mp hy
    have q := List.all_eq_true.mp h x hx
    cases x with
    | int i =>
      have q : (decide (0 ≤ i) && decide (i < 97)) = true := q
      rw [Bool.and_eq_true] at q
      exact ⟨of_decide_eq_true q.1, of_decide_eq_true q.2⟩
    | _ => cases q
def fd_is_filling (C : Addr) : Fd := { n := 2, dom := fun ds => ∃ t d : D, ds = [t, d] ∧ plainF t ∧ plainT d, res := fun ds r => ∃ (t : D) (g s u : Nat), ds = [t, shD g s u] ∧ ShOk g s u ∧ r = .bl (fillB g s u t), exn := fun ds X fs => ∃ t d : D, ds = [t, d] ∧ exS C d X fs }
theorem cl_is_filling {C : Addr} {t : D} {g s u : Nat} (h : ShOk g s u) (ht : plainF t) : Cal (fd_is_filling C) [t, shD g s u] (.bl (fillB g s u t)) := ⟨rfl, ⟨t, _, rfl, ht, plainT_sh g s u⟩, rfl, fun d ⟨t', g', s', u', e, q1, q2⟩ => by
  injection e with e1 e
  injection e with e2 e
  obtain ⟨rfl, rfl, rfl⟩ := shD_inj e2
  rw [q2, e1], fun X fs ⟨t', d', e, q⟩ => by
  cases e
  exact exS_no h q⟩
local macro_rules | `(tactic| walk_at "cal") => `(tactic| (apply cl_is_filling <;> first | assumption | omega | skip))
theorem row_bd {g s u : Nat} {r : List Int} (h : r ∈ rowsV g s u) : ∀ x ∈ r, 0 ≤ x ∧ x < 97 := by
  unfold rowsV at h
  rcases List.mem_append.mp h with h | h
  · obtain ⟨k, _, rfl⟩ := List.mem_map.mp h
    intro x hx
    obtain ⟨p, _, rfl⟩ := List.mem_map.mp hx
    unfold locF
    split
    · split <;> decide
    · decide
  · obtain ⟨k, _, rfl⟩ := List.mem_map.mp h
    intro x hx
    obtain ⟨p, _, rfl⟩ := List.mem_map.mp hx
    unfold ovF
    split
    · split
      · decide
      · exact ⟨Int.emod_nonneg _ (by decide), Int.emod_lt_of_pos _ (by decide)⟩
    · split <;> decide
theorem getD_rL {rs : List (List Int)} {i : Nat} (h : i < rs.length) : (rL rs).getD i .non = .lst (iL rs[i]) := by
  rw [List.getD_eq_getElem?_getD, List.getElem?_map, List.getElem?_eq_getElem h]
  rfl
theorem getD_bd {v : List Int} (h : ∀ x ∈ v, 0 ≤ x ∧ x < 97) (i : Nat) : 0 ≤ v.getD i 0 ∧ v.getD i 0 < 97 := by
  rw [List.getD_eq_getElem?_getD]
  cases e : v[i]? with
  | none => exact ⟨by decide, by decide⟩
  | some n => exact h n (List.mem_of_getElem? e)
theorem all_take {α : Type} {f : α → Bool} {l : List α} {i : Nat} (hi : i < l.length) : (l.take (i + 1)).all f = ((l.take i).all f && f l[i]) := by
  rw [List.take_succ, List.getElem?_eq_getElem hi, List.all_append]
  simp
theorem ok_is_filling (T : Txt K mg) : FnOk P w K mg base (L2.CX P w) 11 T.f_is_filling T.fd_is_filling ["thing", "shape"] (SpD K (fd_is_filling T.t_NoShape)) := by
  refine fn_data (N := N_is_filling) (.inl T.F_is_filling) sc_is_filling rfl (fun cdv A outer s H E hr tk => ?_)
  refine ⟨_, (pss_cons (ps_set (i := 2) sc_is_filling.nd rfl (Or.inl rfl) (pe_cl0 (m := 1) (ok_count T) (hr.mono (by decide)) rfl T.g_count T.k_count T.b_count_0_shape (passD tk) (pk_cons (pv 1) pk_nil)))
      (pss_cons (ps_if (PW.pt (pw_or (pt_not (g_tru (K := K) rfl (pe_callB (g_isi (K := K) rfl) rfl T.b_isinstance boot_isinstance (pa_cons (pv 0) (pa_cons (pe_bltn (v := .ty "list") rfl T.b_list boot_list rfl) pa_nil))) (fun _ => rfl))) (pw_or (pt_cmpR (g_ne (K := K) rfl hr) (pe_callB (g_len (K := K) rfl) rfl T.b_len boot_len (pa_cons (pv 0) pa_nil)) (pv 2) (nomark _)) (pw_or1 (pt_not (g_tru (K := K) rfl (pe_callB (g_all (K := K) rfl rfl) rfl T.b_all boot_all (pa_cons (pe_lc (own := [("one", 4)]) rfl sc_is_filling.nd (g_list (K := K) rfl (pv 0)) (blkOk_by (own := [("one", 4)]) (N := N_is_filling) (sc := defScope s_is_filling) (by decide +kernel)) (fun _ _ _ _ _ => (pg_name (i := 4) sc_is_filling.nd rfl (Or.inl rfl))) (fun _ _ _ _ _ => pts_nil) (fun _ _ _ _ _ => (pe_cl (m := 0) (ok_is_number T) (hr.mono (by decide)) rfl T.g_is_number T.k_is_number T.b_is_number pass_never (pa_cons (pv 4) pa_nil) pk_nil))) pa_nil)) (fun _ => rfl))))))) (pss_one (ps_ret pe_bl)) pss_nil)
      (pss_cons (ps_for (passes_of rfl) rfl (g_list (K := K) rfl (pe_cl0 (m := 1) (ok_checks T) (hr.mono (by decide)) rfl T.g_checks T.k_checks T.b_checks_0_shape (passD tk) (pk_cons (pv 1) pk_nil))) (pg_name (i := 3) sc_is_filling.nd rfl (Or.inl rfl)) (pss_one (ps_if (pt_cmpR (g_ne (K := K) rfl hr) (pe_op g_mod (pe_callB (g_sum (K := K) rfl rfl) rfl T.b_sum boot_sum (pa_cons (pe_lc (own := [("factor", 5), ("number", 6)]) rfl sc_is_filling.nd (g_zip (K := K) rfl rfl T.b_zip (pa_cons (pv 3) (pa_cons (pv 0) pa_nil))) (blkOk_by (own := [("factor", 5), ("number", 6)]) (N := N_is_filling) (sc := defScope s_is_filling) (by decide +kernel)) (fun _ _ _ _ _ => (g_tup (K := K) (n := 2) rfl rfl (pgs_cons (pg_name (i := 5) sc_is_filling.nd rfl (Or.inl rfl)) (pgs_cons (pg_name (i := 6) sc_is_filling.nd rfl (Or.inl rfl)) pgs_nil)))) (fun _ _ _ _ _ => pts_nil) (fun _ _ _ _ _ => (pe_op g_mul (pv 5) (pv 6)))) pa_nil)) (pe_glob (v := .int 97) rfl T.c_PRIME ⟨_, rfl⟩)) pe_int (nomark _)) (pss_one (ps_ret pe_bl)) pss_nil)))
      (pss_one (ps_ret pe_bl))))), fun ds N' b hl hd acc => ?_⟩
  obtain ⟨t, d, rfl, ht, hp⟩ := hd
  refine w_seq (ws_asg (b' := (fd_is_filling T.t_NoShape).cost [t, d] + b) (evs_calXK (es := []) (fs := [d]) (by walk_at "ev") (by walk_at "ev") rfl rfl rfl ⟨d, rfl, hp⟩ (Nat.le_of_eq (Nat.zero_add _)) acc (fun _ => rfl) fun C x ⟨d', e, q⟩ => by cases e; exact ⟨Nat.le_add_left _ _, t, d, rfl, q⟩) fun r ⟨g, s, u, e, h, q⟩ => ?_)
  cases e
  have hmi : ((g : Int) * ((s : Int) + 1) + u) = ((many g s u : Nat) : Int) := by unfold many; push_cast; rfl
  rw [q, hmi]
  obtain ⟨⟨g0, g1⟩, ⟨s0, s1⟩, u1⟩ := h.nat
  have hm := h.many
  have hmm : many g s u = g * (s + 1) + u := rfl
  refine w_seq ?_
  have fin : ∀ c : Bool, c = fillB g s u t → (fd_is_filling T.t_NoShape).res [t, shD g s u] (.bl c) := fun c e => ⟨t, g, s, u, rfl, h, by rw [e]⟩
  by_cases hl0 : ∃ xs, t = .lst xs
  · obtain ⟨xs, rfl⟩ := hl0
    obtain ⟨hxl, hxk⟩ := ht
    refine w_if (c := (!decide (xs.length = many g s u) || !xs.all isNum)) (EvT.eq (et_or (et_not (et_tru (by walk_at "ev") rfl)) fun _ => et_or (c := !decide (xs.length = many g s u)) (EvT.eq (by walk_at "ev") ?_) fun _ => et_not (et_tru (d := .bl (xs.all isNum)) (EvD.eq (ev_cb (ea_cons (EvD.wk (ev_lc1 (fun i => .bl (isNum (xs.getD i .non))) (ei_list (by walk_at "ev")) hxl fun i hi => ⟨_, tg_name, fun b0 => ?_⟩)) ea_nil) (c_all (bs := xs.map isNum) ?_)) ?_) rfl)) (by rfl)) (fun h1 => ?_) (fun h1 => w_next ?_)
    · congr 1
      by_cases e : xs.length = many g s u
      · rw [decide_eq_true e, decide_eq_true (by omega)]
      · rw [decide_eq_false e, decide_eq_false (by omega)]
    · have q : plainK (xs.getD i .non) = true := by
        rw [List.getD_eq_getElem?_getD, List.getElem?_eq_getElem hi]
        exact hxk _ (List.getElem_mem hi)
      exact ev_cal (by walk_at "ev") (cl_is_number q) rfl
    · apply List.ext_getElem
      · simp
      · intro i h1 h2
        have hi : i < xs.length := by simpa using h1
        simp [List.getD_eq_getElem?_getD, hi]
    · rw [List.all_map]; rfl
    · refine w_ret (d := .bl false) (by walk_at "ev") ⟨by walk_at "b", fin _ ?_⟩
      show false = (decide (xs.length = many g s u) && (xs.all isNum && keepsV g s u (xs.map toI)))
      cases c1 : decide (xs.length = many g s u) with
      | false => rfl
      | true =>
        rw [c1] at h1
        cases c2 : xs.all isNum with
        | false => rfl
        | true => rw [c2] at h1; cases h1
    · have c1 : decide (xs.length = many g s u) = true := by
        cases c1 : decide (xs.length = many g s u) with
        | true => rfl
        | false => rw [c1] at h1; cases h1
      have c2 : xs.all isNum = true := by
        cases c2 : xs.all isNum with
        | true => rfl
        | false => rw [c1, c2] at h1; cases h1
      obtain ⟨v, rfl, hv⟩ := all_num c2
      have lv : v.length = many g s u := by rw [← iL_len]; exact of_decide_eq_true c1
      have hfb := fillB_ints lv hv
      refine w_seq (w_for allV (fun i ds b' => ∃ s3 s4 s5 s6 : Sd, ds = [.dat (.lst (iL v)), .dat (shD g s u), .dat (.int (many g s u : Nat)), s3, s4, s5, s6] ∧ ((rowsV g s u).take i).all (fun r => decide (dot r v % 97 = 0)) = true ∧ b' = (fd_is_filling T.t_NoShape).cost [.lst (iL v), shD g s u] + b) (ei_list (by walk_at "ev")) ⟨_, _, _, _, rfl, rfl, by rfl⟩ ?_ ?_)
      · rintro i ds' b' hi ⟨s3, s4, s5, s6, rfl, ha, rfl⟩
        rw [List.length_map] at hi
        rw [getD_rL hi]
        have hr := List.getElem_mem hi
        have lr := rows_len hr
        have br := row_bd hr
        generalize er : (rowsV g s u)[i] = r at *
        refine ⟨_, tg_name, ?_⟩
        refine w_if (c := !decide (dot r v % 97 = 0)) (EvT.eq (et_tst (ev_op (x := .int (dot r v % 97)) (ev_op (ev_cb (ea_cons (EvD.wk (ev_lc1 (fun i => .int (r.getD i 0 * v.getD i 0)) (ei_zip (xs := iL r) (ys := iL v) (by walk_at "ev")) (by rw [iL_len, iL_len]; omega) fun j hj => ?_)) ea_nil) (c_sumL (ns := (List.range (many g s u)).map fun j => r.getD j 0 * v.getD j 0) ?_)) (by walk_at "ev") ?_) (by walk_at "ev") (by walk_at "op"))) (by rfl)) (fun h3 => ?_) (fun h3 => w_next ?_)
        · have hj' : j < many g s u := by rw [iL_len, iL_len] at hj; omega
          rw [getD_iL (by omega), getD_iL (by omega)]
          refine ⟨_, by walk_at "tg", fun b0 => ?_⟩
          have q1 := getD_bd br j
          have q2 := getD_bd hv j
          walk_at "ev"
        · rw [iL_len, iL_len, lr, lv, Nat.min_self, List.map_map]
          rfl
        · rw [sm_range, ← dot_of lr lv]
          exact o_mod (by decide)
        · refine w_ret (d := .bl false) (by walk_at "ev") ⟨by walk_at "b", fin _ ?_⟩
          rw [hfb]
          symm
          unfold keepsV
          rw [List.all_eq_false]
          refine ⟨r, hr, ?_⟩
          cases c3 : decide (dot r v % 97 = 0) with
          | true => rw [c3] at h3; cases h3
          | false => exact fun z => nomatch z
        · refine ⟨_, _, _, _, rfl, ?_, rfl⟩
          rw [all_take hi, ha, er]
          cases c3 : decide (dot r v % 97 = 0) with
          | true => rfl
          | false => rw [c3] at h3; cases h3
      · rintro ds' b' ⟨s3, s4, s5, s6, rfl, ha, rfl⟩
        rw [List.length_map, List.take_length] at ha
        refine w_ret (d := .bl true) (by walk_at "ev") ⟨by walk_at "b", fin _ ?_⟩
        rw [hfb]
        exact ha.symm
  · have hk : plainK t = true := by
      cases t <;> first | exact ht | exact absurd ⟨_, rfl⟩ hl0
    have hb0 : fillB g s u t = false := by
      cases t <;> first | rfl | exact absurd ⟨_, rfl⟩ hl0
    refine w_if (c := true) (EvT.eq (et_or (c := true) (e := true) (et_not (et_tru (d := .bl false) ?_ rfl)) fun h => nomatch h) rfl) (fun _ => ?_) (fun h => nomatch h)
    · cases t with
      | lst xs => exact absurd ⟨_, rfl⟩ hl0
      | non => walk_at "ev"
      | bl c => walk_at "ev"
      | int c => walk_at "ev"
      | str c => walk_at "ev"
      | tup c => walk_at "ev"
      | dct c => walk_at "ev"
      | _ => cases hk
    · exact w_ret (d := .bl false) (by walk_at "ev") ⟨by walk_at "b", fin _ hb0.symm⟩

--OPT fdarg T.t_NoRow
/-- what is wrong of a row: None, or the first wrong place -/
def rowE : D → Option D
  | .lst xs => if 60 < xs.length then some .non else (xs.findIdx? fun x => !isNum x).map fun (i : Nat) => D.int (i : Int)
  | _ => some .non
def exR (C : Addr) (d : D) (X : Addr) (fs : List (Str × D)) : Prop := ∃ a, rowE d = some a ∧ X = C ∧ fs = [(("at" : Str), a)]
theorem rowE_lst {xs : List D} (h : ¬ 60 < xs.length) : rowE (.lst xs) = (xs.findIdx? fun x => !isNum x).map fun (i : Nat) => D.int (i : Int) := by
  show (if 60 < xs.length then some D.non else _) = _
  rw [if_neg h]
theorem rowE_at {xs : List D} {i : Nat} (h : ¬ 60 < xs.length) (hi : i < xs.length) (h1 : isNum (xs.getD i D.non) = false) (h2 : ∀ j, j < i → isNum (xs.getD j D.non) = true) : rowE (.lst xs) = some (.int i) := by
  rw [rowE_lst h]
  have e : xs.findIdx? (fun x => !isNum x) = some i := by
    rw [List.findIdx?_eq_some_iff_getElem]
    refine ⟨hi, ?_, fun j hj => ?_⟩
    · rw [List.getD_eq_getElem?_getD, List.getElem?_eq_getElem hi] at h1
      have h1 : isNum xs[i] = false := h1
      rw [h1]; rfl
    · have q := h2 j hj
      rw [List.getD_eq_getElem?_getD, List.getElem?_eq_getElem (by omega)] at q
      have q : isNum xs[j] = true := q
      rw [q]; exact fun z => nomatch z
  rw [e]
  rfl
theorem rowE_no {xs : List D} (h : ¬ 60 < xs.length) (h2 : ∀ j, j < xs.length → isNum (xs.getD j D.non) = true) : rowE (.lst xs) = none := by
  rw [rowE_lst h]
  have e : xs.findIdx? (fun x => !isNum x) = none := by
    rw [List.findIdx?_eq_none_iff]
    intro x hx
    obtain ⟨i, hi, e⟩ := List.getElem_of_mem hx
    have q := h2 i hi
    rw [List.getD_eq_getElem?_getD, List.getElem?_eq_getElem hi] at q
    have q : isNum xs[i] = true := q
    rw [← e, q]; rfl
  rw [e]
  rfl
def fd_need_row (C : Addr) : Fd := { n := 1, dom := fun ds => ∃ d : D, ds = [d] ∧ plainF d, res := fun ds r => ∃ d : D, ds = [d] ∧ rowE d = none ∧ r = .non, exn := fun ds X fs => ∃ d : D, ds = [d] ∧ exR C d X fs }
theorem ok_need_row (T : Txt K mg) : FnOk P w K mg base (L2.CX P w) 3 T.f_need_row T.fd_need_row ["thing"] (SpD K (fd_need_row T.t_NoRow)) := by
  refine fn_data (dvs := []) (kws := []) (N := N_need_row) (.inr T.F_need_row) sc_need_row rfl (fun cdv A outer s H E hr tk => ?_)
  refine ⟨_, (pss_cons (ps_if (PW.pt (pw_or (pt_not (g_tru (K := K) rfl (pe_callB (g_isi (K := K) rfl) rfl T.b_isinstance boot_isinstance (pa_cons (pv 0) (pa_cons (pe_bltn (v := .ty "list") rfl T.b_list boot_list rfl) pa_nil))) (fun _ => rfl))) (pw_or1 (pt_cmpR g_gt (pe_callB (g_len (K := K) rfl) rfl T.b_len boot_len (pa_cons (pv 0) pa_nil)) (pe_glob (v := .int 60) rfl T.c_MOST ⟨_, rfl⟩) (nomark _))))) (pss_one (g_raise1 (K := K) rfl rfl (x_NoRow T) (hr.mono (by decide)) tk (by rfl) T.g_NoRow pe_non)) pss_nil)
      (pss_one (ps_for (passes_of rfl) rfl (g_enum (K := K) rfl rfl T.b_enumerate (pa_cons (pv 0) pa_nil)) (g_tup (K := K) (n := 2) rfl rfl (pgs_cons (pg_name (i := 1) sc_need_row.nd rfl (Or.inl rfl)) (pgs_cons (pg_name (i := 2) sc_need_row.nd rfl (Or.inl rfl)) pgs_nil))) (pss_one (ps_if (pt_not (g_tru (K := K) rfl (pe_cl (m := 0) (ok_is_number T) (hr.mono (by decide)) rfl T.g_is_number T.k_is_number T.b_is_number (passD tk) (pa_cons (pv 2) pa_nil) pk_nil) (fun _ => rfl))) (pss_one (g_raise1 (K := K) rfl rfl (x_NoRow T) (hr.mono (by decide)) tk (by rfl) T.g_NoRow (pv 1))) pss_nil))))), fun ds N' b hl hd acc => ?_⟩
  obtain ⟨d, rfl, hp⟩ := hd
  by_cases hl : ∃ xs, d = .lst xs
  · obtain ⟨xs, rfl⟩ := hl
    obtain ⟨hxl, hxk⟩ := hp
    refine w_seq (w_if (c := decide (60 < xs.length)) (EvT.eq (et_or (c := false) (e := decide (60 < xs.length)) (et_not (et_tru (d := .bl true) (by walk_at "ev") rfl)) fun _ => EvT.eq (c := decide ((60 : Int) < ((xs.length : Nat) : Int))) (by walk_at "ev") ?_) (by rfl)) (fun h => ?_) (fun h => w_next ?_))
    · by_cases h : 60 < xs.length
      · rw [decide_eq_true h, decide_eq_true (by omega)]
      · rw [decide_eq_false h, decide_eq_false (by omega)]
    · have h := of_decide_eq_true h
      exact w_raise1 acc T.o_NoRow T.n_NoRow (by walk_at "ev") ⟨by walk_at "b", _, rfl, .non, by show (if 60 < xs.length then some D.non else _) = _; rw [if_pos h], rfl, rfl⟩
    · have h := of_decide_eq_false h
      refine w_for allV (fun i ds b' => ∃ s1 s2 : Sd, ds = [.dat (.lst xs), s1, s2] ∧ (∀ j, j < i → isNum (xs.getD j D.non) = true) ∧ b' = (fd_need_row T.t_NoRow).cost [.lst xs] + b) (ei_enum (by walk_at "ev")) ⟨_, _, rfl, (fun j hj => absurd hj (Nat.not_lt_zero _)), by rfl⟩ ?_ ?_
      · rintro i ds' b' hi ⟨s1, s2, rfl, hpre, rfl⟩
        have hk : plainK (xs.getD i D.non) = true := by
          rw [List.getD_eq_getElem?_getD, List.getElem?_eq_getElem hi]
          exact hxk _ (List.getElem_mem hi)
        refine ⟨_, tg_tup (by walk_at "tg"), ?_⟩
        refine w_if (c := !isNum (xs.getD i D.non)) (et_not (et_tru (ev_cal (p := false) (by walk_at "ev") (cl_is_number hk) rfl) rfl)) (fun h1 => ?_) (fun h1 => w_next ?_)
        · exact w_raise1 acc T.o_NoRow T.n_NoRow (by walk_at "ev") ⟨by walk_at "b", _, rfl, .int i, rowE_at h hi (by simpa using h1) hpre, rfl, rfl⟩
        · refine ⟨_, _, rfl, fun j hj => ?_, rfl⟩
          by_cases e : j = i
          · rw [e]; simpa using h1
          · exact hpre j (by omega)
      · rintro ds' b' ⟨s1, s2, rfl, hpre, rfl⟩
        exact ⟨by walk_at "b", ⟨_, rfl, rowE_no h hpre, rfl⟩, rfl⟩
  · have hk : plainK d = true := by
      cases d <;> first | exact hp | exact absurd ⟨_, rfl⟩ hl
    have hr : rowE d = some .non := by
      cases d <;> first | rfl | exact absurd ⟨_, rfl⟩ hl
    refine w_seq (w_if (c := true) (EvT.eq (et_or (c := true) (e := true) (et_not (et_tru (d := .bl false) ?_ rfl)) fun h => nomatch h) rfl) (fun _ => ?_) (fun h => nomatch h))
    · cases d with
      | lst xs => exact absurd ⟨_, rfl⟩ hl
      | non => walk_at "ev"
      | bl c => walk_at "ev"
      | int c => walk_at "ev"
      | str c => walk_at "ev"
      | tup c => walk_at "ev"
      | dct c => walk_at "ev"
      | _ => cases hk
    · exact w_raise1 acc T.o_NoRow T.n_NoRow (by walk_at "ev") ⟨by walk_at "b", d, rfl, .non, hr, rfl, rfl⟩

--OPT fdarg T.t_NoShape
theorem dataP_lenC (g s : Nat) : (dataP g s).length = g * s := by
  unfold dataP
  rw [List.length_flatMap]
  have e : (List.range g).map (fun (i : Nat) => ((List.range s).map fun (j : Nat) => (i : Int) * ((s : Int) + 1) + (j : Int)).length) = List.replicate g s := by
    apply List.ext_getElem
    · simp
    · intro i h1 h2
      simp
  rw [e, List.sum_replicate_nat]
def fd_cells_for (C : Addr) : Fd := { n := 2, dom := fun ds => ∃ (m : Int) (d : D), ds = [.int m, d] ∧ (0 ≤ m ∧ m ≤ 100) ∧ plainT d, res := fun ds r => ∃ (m : Int) (g s u : Nat), ds = [.int m, shD g s u] ∧ ShOk g s u ∧ r = .int (cellsV g s m), exn := fun ds X fs => ∃ (m : Int) (d : D), ds = [.int m, d] ∧ exS C d X fs }
theorem cl_cells_for {C : Addr} {g s u : Nat} {m : Int} (h : ShOk g s u) (hm : 0 ≤ m ∧ m ≤ 100) : Cal (fd_cells_for C) [.int m, shD g s u] (.int (cellsV g s m)) := ⟨rfl, ⟨m, _, rfl, hm, plainT_sh g s u⟩, rfl, fun d ⟨m', g', s', u', e, q1, q2⟩ => by
  injection e with e1 e
  injection e with e3 e
  injection e1 with e1
  obtain ⟨rfl, rfl, rfl⟩ := shD_inj e3
  rw [q2, e1], fun X fs ⟨m', d', e, q⟩ => by
  injection e with e1 e
  injection e with e3 e
  rw [← e3] at q
  exact exS_no h q⟩
theorem ok_cells_for (T : Txt K mg) : FnOk P w K mg base (L2.CX P w) 5 T.f_cells_for T.fd_cells_for ["many", "shape"] (SpD K (fd_cells_for T.t_NoShape)) := by
  refine fn_data (N := N_cells_for) (.inl T.F_cells_for) sc_cells_for rfl (fun cdv A outer s H E hr tk => ?_)
  refine ⟨_, (pss_cons (ps_set (i := 2) sc_cells_for.nd rfl (Or.inl rfl) (pe_callB (g_len (K := K) rfl) rfl T.b_len boot_len (pa_cons (pe_cl0 (m := 1) (ok_data_places T) (hr.mono (by decide)) rfl T.g_data_places T.k_data_places T.b_data_places_0_shape (passD tk) (pk_cons (pv 1) pk_nil)) pa_nil)))
      (pss_one (ps_ret (pe_op g_div (pe_op g_sub (pe_op (g_add (K := K) rfl) (pv 0) (pv 2)) pe_int) (pv 2))))), fun ds N' b hl hd acc => ?_⟩
  obtain ⟨m, d, rfl, hm, hp⟩ := hd
  refine w_seq (ws_asg (b' := (fd_cells_for T.t_NoShape).cost [.int m, d] + b) (R := fun r => ∃ g s u : Nat, d = shD g s u ∧ ShOk g s u ∧ r = .int ((g : Int) * (s : Int))) (evs_cb (eas_one (evs_calXK (es := []) (fs := [d]) (by walk_at "ev") (by walk_at "ev") rfl rfl rfl ⟨d, rfl, hp⟩ (Nat.le_of_eq (Nat.zero_add _)) acc (fun z => nomatch z) fun C x ⟨d', e, q⟩ => by cases e; exact ⟨Nat.le_add_left _ _, m, d, rfl, q⟩)) fun es ⟨z, e, g, s, u, e2, h, q⟩ => by
    cases e2
    subst e q
    exact ClD.to c_lenL ⟨g, s, u, rfl, h, by rw [iL_len, dataP_lenC]; push_cast; rfl⟩) ?_)
  rintro _ ⟨g, s, u, rfl, h, rfl⟩
  obtain ⟨⟨g0, g1⟩, ⟨s0, s1⟩, u1⟩ := h.nat
  have gs0 : 0 < (g : Int) * (s : Int) := Int.mul_pos (by omega) (by omega)
  have gs1 : ((g : Int) * (s : Int)).natAbs < 2 ^ 30 := by
    have q : g * s ≤ 4 * 4 := Nat.mul_le_mul g1 s1
    have e : (g : Int) * (s : Int) = ((g * s : Nat) : Int) := by push_cast; rfl
    rw [e]
    omega
  exact w_ret (d := .int ((m + (g : Int) * (s : Int) - 1) / ((g : Int) * (s : Int)))) (ev_op (x := .int (m + (g : Int) * (s : Int) - 1)) (y := .int ((g : Int) * (s : Int))) (by walk_at "ev") (by walk_at "ev") (o_div (wide_div (b := 30) gs0 gs1 (by decide) (by decide)))) ⟨by walk_at "b", m, g, s, u, rfl, h, rfl⟩

--OPT fdarg T.t_NoShape T.t_NoRow
theorem rowE_none {d : D} (h : rowE d = none) : ∃ v : List Int, d = .lst (iL v) ∧ rowOk v := by
  cases d with
  | lst xs =>
    by_cases hl : 60 < xs.length
    · have h : (if 60 < xs.length then some D.non else _) = none := h
      rw [if_pos hl] at h
      cases h
    · rw [rowE_lst hl] at h
      have h2 : xs.findIdx? (fun x => !isNum x) = none := by simpa using h
      rw [List.findIdx?_eq_none_iff] at h2
      have hn : ∀ x ∈ xs, isNum x = true := fun x hx => by simpa using h2 x hx
      refine ⟨xs.map fun d => match d with | .int i => i | _ => 0, ?_, by rw [List.length_map]; omega, ?_⟩
      · unfold iL
        rw [List.map_map]
        congr 1
        refine ((List.map_congr_left fun x hx => ?_).trans (List.map_id xs)).symm
        have q := hn x hx
        cases x <;> first | rfl | cases q
      · intro y hy
        obtain ⟨x, hx, rfl⟩ := List.mem_map.mp hy
        have q := hn x hx
        cases x with
        | int i =>
          have q : (decide (0 ≤ i) && decide (i < 97)) = true := q
          rw [Bool.and_eq_true] at q
          exact ⟨of_decide_eq_true q.1, of_decide_eq_true q.2⟩
        | _ => cases q
  | _ => cases h
theorem rowE_row {v : List Int} (h : rowOk v) : rowE (.lst (iL v)) = none := by
  refine rowE_no (by rw [iL_len]; have := h.1; omega) fun j hj => ?_
  rw [iL_len] at hj
  rw [getD_iL hj]
  have q := h.2 (v.getD j 0) (by rw [List.getD_eq_getElem?_getD, List.getElem?_eq_getElem hj]; exact List.getElem_mem hj)
  show (decide (0 ≤ v.getD j 0) && decide (v.getD j 0 < 97)) = true
  rw [decide_eq_true q.1, decide_eq_true q.2]; rfl
def exLd (C1 C2 : Addr) (d t : D) (X : Addr) (fs : List (Str × D)) : Prop := exS C1 t X fs ∨ (isShape t = true ∧ exR C2 d X fs)
def fd_laid (C1 C2 : Addr) : Fd := { n := 2, dom := fun ds => ∃ d t : D, ds = [d, t] ∧ plainF d ∧ plainT t, res := fun ds r => ∃ (v : List Int) (g s u : Nat), ds = [.lst (iL v), shD g s u] ∧ ShOk g s u ∧ rowOk v ∧ r = .dct (laidK g s u v), exn := fun ds X fs => ∃ d t : D, ds = [d, t] ∧ exLd C1 C2 d t X fs, own := true, own2 := 4 }
theorem plainF_iL {v : List Int} (h : v.length ≤ 100000) : plainF (.lst (iL v)) := ⟨by rw [iL_len]; exact h, fun x hx => by
  obtain ⟨y, _, rfl⟩ := List.mem_map.mp hx
  rfl⟩
theorem cl_laid {g s u : Nat} {v : List Int} {C1 C2 : Addr} (h : ShOk g s u) (hv : rowOk v) : Cal (fd_laid C1 C2) [.lst (iL v), shD g s u] (.dct (laidK g s u v)) := ⟨rfl, ⟨_, _, rfl, plainF_iL (by have := hv.1; omega), plainT_sh g s u⟩, rfl, fun d ⟨v', g', s', u', e, _, _, q⟩ => by
  injection e with e1 e
  injection e with e3 e
  injection e1 with e1
  obtain ⟨rfl, rfl, rfl⟩ := shD_inj e3
  rw [q, iL_inj e1], fun X fs ⟨d', t', e, q⟩ => by
  injection e with e1 e
  injection e with e3 e
  rcases q with q | ⟨_, a, q, _⟩
  · rw [← e3] at q
    exact exS_no h q
  · rw [← e1, rowE_row hv] at q
    cases q⟩
theorem ok_laid (T : Txt K mg) : FnOk P w K mg base (L2.CX P w) 6 T.f_laid T.fd_laid ["row", "shape"] (SpD K (fd_laid T.t_NoShape T.t_NoRow)) := by
  refine fn_data (N := N_laid) (.inl T.F_laid) sc_laid rfl (fun cdv A outer s H E hr tk => ?_)
  refine ⟨_, (pss_cons (ps_expr (pe_cl (m := 0) (ok_need_shape T) (hr.mono (by decide)) rfl T.g_need_shape T.k_need_shape T.b_need_shape (passD tk) (pa_cons (pv 1) pa_nil) pk_nil))
      (pss_cons (ps_expr (pe_cl (m := 0) (ok_need_row T) (hr.mono (by decide)) rfl T.g_need_row T.k_need_row T.b_need_row (passD tk) (pa_cons (pv 0) pa_nil) pk_nil))
      (pss_cons (ps_set (i := 2) sc_laid.nd rfl (Or.inr rfl) (pe_callB (g_len (K := K) rfl) rfl T.b_len boot_len (pa_cons (pe_cl0 (m := 1) (ok_data_places T) (hr.mono (by decide)) rfl T.g_data_places T.k_data_places T.b_data_places_0_shape (passD tk) (pk_cons (pv 1) pk_nil)) pa_nil)))
      (pss_cons (ps_set (i := 3) sc_laid.nd rfl (Or.inl rfl) (pe_cl (m := 1) (ok_cells_for T) (hr.mono (by decide)) rfl T.g_cells_for T.k_cells_for T.b_cells_for_1_shape (passD tk) (pa_cons (pe_callB (g_len (K := K) rfl) rfl T.b_len boot_len (pa_cons (pv 0) pa_nil)) pa_nil) (pk_cons (pv 1) pk_nil)))
      (pss_cons (ps_set (i := 4) sc_laid.nd rfl (Or.inr rfl) (pe_op (g_add (K := K) rfl) (pv 0) (pe_op g_mul (pe_lst (pa_cons pe_int pa_nil)) (pe_op g_sub (pe_op g_mul (pv 3) (pv 2)) (pe_callB (g_len (K := K) rfl) rfl T.b_len boot_len (pa_cons (pv 0) pa_nil))))))
      (pss_cons (ps_set (i := 5) sc_laid.nd rfl (Or.inr rfl) (pe_lc (own := [("at", 6)]) rfl sc_laid.nd (pi_range1 rfl T.b_range (pa_cons (pv 3) pa_nil)) (blkOk_by (own := [("at", 6)]) (N := N_laid) (sc := defScope s_laid) (by decide +kernel)) (fun _ _ _ _ _ => (pg_name (i := 6) sc_laid.nd rfl (Or.inl rfl))) (fun _ _ _ _ _ => pts_nil) (fun _ _ _ _ _ => (pe_cl (m := 0) (ok_filled T) (hr.mono (by decide)) rfl T.g_filled T.k_filled T.b_filled pass_never (pa_cons (pe_slice (g_slice (K := K) rfl) (pv 4) (po_some (pe_op g_mul (pv 6) (pv 2))) (po_some (pe_op (g_add (K := K) rfl) (pe_op g_mul (pv 6) (pv 2)) (pv 2)))) (pa_cons (pv 1) pa_nil)) pk_nil))))
      (pss_one (ps_ret (pe_dc (own := [("place", 7)]) rfl sc_laid.nd (pi_range1 rfl T.b_range (pa_cons (pe_cl0 (m := 1) (ok_count T) (hr.mono (by decide)) rfl T.g_count T.k_count T.b_count_0_shape (passD tk) (pk_cons (pv 1) pk_nil)) pa_nil)) (blkOk_by (own := [("place", 7)]) (N := N_laid) (sc := defScope s_laid) (by decide +kernel)) (fun _ _ _ _ _ => (pg_name (i := 7) sc_laid.nd rfl (Or.inr rfl))) (fun _ _ _ _ _ => pts_nil) (fun _ _ _ _ _ => (pv 7)) (fun _ _ _ _ _ => (pe_lc (own := [("one", 8)]) rfl sc_laid.nd (g_list (K := K) rfl (pv 5)) (Sh.BlkOk.rel (blkOk_by (own := [("one", 8)]) (N := N_laid) (sc := (scopeOf (valOf ((defBody s_laid).getD 6 (.Pass ⟨0, 0, 0, 0⟩))))) (by decide +kernel))) (fun _ _ _ _ _ => (pg_name (i := 8) sc_laid.nd rfl (Or.inl rfl))) (fun _ _ _ _ _ => pts_nil) (fun _ _ _ _ _ => (pe_ix (g_ix (K := K) rfl hr) (pv 8) (pv 7) (fun _ _ => rfl)))))))))))))), fun ds N' b hl hd acc => ?_⟩
  obtain ⟨d, t, rfl, hp, hq⟩ := hd
  refine w_seq (ws_drop (b' := (fd_laid T.t_NoShape T.t_NoRow).cost [d, t] + b) (evs_calX (es := [t]) (by walk_at "ev") rfl rfl ⟨t, rfl, hq⟩ (Nat.le_of_eq (Nat.zero_add _)) acc (fun z => nomatch z) fun C x ⟨d', e, q⟩ => by cases e; exact ⟨Nat.le_add_left _ _, d, t, rfl, .inl q⟩) fun r ⟨d', e, hs, _⟩ => ?_)
  cases e
  refine w_seq (ws_drop (b' := (fd_laid T.t_NoShape T.t_NoRow).cost [d, t] + b) (evs_calX (es := [d]) (by walk_at "ev") rfl rfl ⟨d, rfl, hp⟩ (Nat.le_of_eq (Nat.zero_add _)) acc (fun z => nomatch z) fun C x ⟨d', e, q⟩ => by cases e; exact ⟨Nat.le_add_left _ _, d, t, rfl, .inr ⟨hs, q⟩⟩) fun r ⟨d', e, hr, _⟩ => ?_)
  cases e
  obtain ⟨v, rfl, hv⟩ := rowE_none hr
  obtain ⟨g, s, u, rfl, h⟩ := isShape_inv hs
  obtain ⟨⟨g0, g1⟩, ⟨s0, s1⟩, u1⟩ := h.nat
  have hm := h.many
  have hmm : many g s u = g * (s + 1) + u := rfl
  have hgs : g * s ≤ 16 := Nat.mul_le_mul g1 s1
  have w0 : 1 ≤ g * s := Nat.mul_le_mul g0 s0
  have gsi : (g : Int) * (s : Int) = ((g * s : Nat) : Int) := by push_cast; rfl
  obtain ⟨k1, k2, k3⟩ := cells_bd (v := v) g0 s0
  have hcn : cellsN g s v ≤ 60 := by
    have := Nat.le_mul_of_pos_right (cellsN g s v) (show 0 < g * s by omega)
    have := hv.1
    by_cases z : cellsN g s v = 0
    · omega
    · have q : (cellsN g s v - 1) * (g * s) < v.length := by
        have e : (cellsN g s v - 1) * (g * s) = cellsN g s v * (g * s) - g * s := by rw [Nat.sub_mul, Nat.one_mul]
        have q3 : g * s ≤ cellsN g s v * (g * s) := Nat.le_mul_of_pos_left _ (by omega)
        omega
      have q2 := Nat.le_mul_of_pos_right (cellsN g s v - 1) (show 0 < g * s by omega)
      omega
  have lw := whole_len (v := v) g0 s0
  have cd : Cal (fd_data_places T.t_NoShape) [shD g s u] (.lst (iL (dataP g s))) := cl_data_places h
  have cc : Cal (fd_cells_for T.t_NoShape) [.int (v.length : Int), shD g s u] (.int (cellsN g s v : Int)) := by
    have q := cl_cells_for (C := T.t_NoShape) (m := (v.length : Int)) h (by have := hv.1; omega)
    rw [k1] at q
    exact q
  refine w_seq (w_asg (d := .int ((g * s : Nat) : Int)) (EvD.eq (ev_cb (ea_cons (ev_calK (es := []) (fs := [shD g s u]) (by walk_at "ev") (by walk_at "ev") cd rfl rfl) ea_nil) c_lenL) (by rw [iL_len, dataP_lenC])) (w_seq ?_))
  refine w_asg (d := .int (cellsN g s v : Int)) (ev_calK (es := [.int (v.length : Int)]) (fs := [shD g s u]) (ea_cons (EvD.eq (ev_cb (ea_cons (by walk_at "ev") ea_nil) c_lenL) (by rw [iL_len])) ea_nil) (by walk_at "ev") cc rfl rfl) (w_seq ?_)
  have ez : (List.replicate (((cellsN g s v : Nat) : Int) * ((g * s : Nat) : Int) - (v.length : Int)).toNat [D.int 0]).flatten = iL (List.replicate (cellsN g s v * (g * s) - v.length) 0) := by
    have e : (((cellsN g s v : Nat) : Int) * ((g * s : Nat) : Int) - (v.length : Int)).toNat = cellsN g s v * (g * s) - v.length := by
      have q : ((cellsN g s v : Nat) : Int) * ((g * s : Nat) : Int) = ((cellsN g s v * (g * s) : Nat) : Int) := by push_cast; rfl
      rw [q]
      omega
    rw [e]
    generalize cellsN g s v * (g * s) - v.length = n
    unfold iL
    induction n with
    | zero => rfl
    | succ n ih => rw [List.replicate_succ, List.flatten_cons, ih, List.replicate_succ, List.map_cons]; rfl
  have ew : iL v ++ iL (List.replicate (cellsN g s v * (g * s) - v.length) 0) = iL (wholeV g s v) := by unfold wholeV; rw [iL_app]
  have lz : (List.replicate (cellsN g s v * (g * s) - v.length) (0 : Int)).length = cellsN g s v * (g * s) - v.length := List.length_replicate
  have hv60 := hv.1
  have cm : CMulW (cellsN g s v : Int) ((g * s : Nat) : Int) := cmul_of 10 10 (by omega) (by omega)
  have hub : cellsN g s v * (g * s) ≤ 60 * 16 := Nat.mul_le_mul hcn hgs
  have q0 : ((cellsN g s v : Nat) : Int) * ((g * s : Nat) : Int) = ((cellsN g s v * (g * s) : Nat) : Int) := by push_cast; rfl
  refine w_asg (d := .lst (iL (wholeV g s v))) (EvD.eq (ev_op (x := .lst (iL v)) (y := .lst (iL (List.replicate (cellsN g s v * (g * s) - v.length) 0))) (by walk_at "ev") (EvD.eq (ev_op (x := .lst [.int 0]) (y := .int (((cellsN g s v : Nat) : Int) * ((g * s : Nat) : Int) - (v.length : Int))) (by walk_at "ev") (ev_op (x := .int (((cellsN g s v : Nat) : Int) * ((g * s : Nat) : Int))) (y := .int (v.length : Int)) (ev_op (by walk_at "ev") (by walk_at "ev") (o_mul cm)) (EvD.eq (ev_cb (ea_cons (by walk_at "ev") ea_nil) c_lenL) (by rw [iL_len])) o_sub) (o_rep (by rw [q0]; omega) (by rw [q0]; show 1 * _ ≤ 100000; omega))) (by rw [ez])) (o_catL (by rw [iL_len, iL_len, lz]; omega))) (by rw [ew])) (w_seq ?_)
  have hd : ∀ a, ∀ x ∈ cellD g s v a, x.natAbs < 2 ^ 250 := fun a x hx => by
    obtain ⟨j, _, rfl⟩ := List.mem_map.mp hx
    have q : ∀ y ∈ wholeV g s v, 0 ≤ y ∧ y < 97 := fun y hy => by
      unfold wholeV at hy
      rcases List.mem_append.mp hy with hy | hy
      · exact hv.2 y hy
      · rw [(List.mem_replicate.mp hy).2]; decide
    rw [List.getD_eq_getElem?_getD]
    cases e : (wholeV g s v)[a * (g * s) + j]? with
    | none => decide
    | some y =>
      have := q y (List.mem_of_getElem? e)
      show y.natAbs < 2 ^ 250
      have : y.natAbs < 97 := by omega
      exact Nat.lt_of_lt_of_le this (by decide)
  have hld : ∀ a, (cellD g s v a).length = g * s := fun a => by simp [cellD]
  refine w_asg (d := .lst ((List.range (cellsN g s v)).map fun a => .lst (iL (fillV g s u (cellD g s v a))))) (EvD.eq (ev_lc1 (fun a => .lst (iL (fillV g s u (cellD g s v a)))) (ei_r1 (n := (cellsN g s v : Int)) (by walk_at "ev") (by omega)) (by omega) fun a ha => ⟨_, tg_name, fun b0 => ?_⟩) (by rw [Int.toNat_natCast])) ?_
  · have ha' : a < cellsN g s v := by omega
    have e1 : ((a : Int) * ((g * s : Nat) : Int)) = ((a * (g * s) : Nat) : Int) := by push_cast; rfl
    have cm2 : CMulW (a : Int) ((g * s : Nat) : Int) := cmul_of 10 10 (by omega) (by omega)
    exact ev_cal (es := [.lst (iL (cellD g s v a)), shD g s u]) (ea_cons (by
      show EvD _ _ _ _ _ _ (.lst (iL ((List.range (g * s)).map fun j => (wholeV g s v).getD (a * (g * s) + j) 0)))
      rw [← cutD' ha' lw]
      exact ev_slice (by walk_at "ev") (ep_some (EvD.eq (by walk_at "ev") (by rw [e1]))) (ep_some (EvD.eq (by walk_at "ev") (by rw [e1]; push_cast; rfl))) sl_L) (by walk_at "ev")) (cl_filled h (hld a) (hd a)) rfl
  have cc2 : Cal (fd_count T.t_NoShape) [shD g s u] (.int (many g s u : Nat)) := by
    have q := cl_count (C := T.t_NoShape) h
    have hmi : ((g : Int) * ((s : Int) + 1) + u) = ((many g s u : Nat) : Int) := by unfold many; push_cast; rfl
    rw [hmi] at q
    exact q
  refine ws_retW (lv := 2) (ew_dc (lv := 1) (fun (p : Nat) => Sum.inl (p : Int)) (fun p => .lst (iL (colV g s u v p))) (ei_r1 (p := true) (n := ((many g s u : Nat) : Int)) (ea_cons (ev_calK (es := []) (fs := [shD g s u]) ea_nil (ea_cons (ev_var rfl) ea_nil) cc2 rfl rfl) ea_nil) (by omega)) (by omega) (fun i j h1 h2 z => by injection z with z; omega) fun p hp => ⟨_, tg_name, fun b0 => ⟨by walk_at "ev", ?_⟩⟩) fun d e => ⟨by walk_at "b", v, g, s, u, rfl, h, hv, ?_⟩
  · have hp' : p < many g s u := by omega
    have hfl : ((List.range (cellsN g s v)).map fun a => D.lst (iL (fillV g s u (cellD g s v a)))).length = cellsN g s v := by simp
    refine (EvO.evw (eo_lc1 (fun a => .int ((fillV g s u (cellD g s v a)).getD p 0)) (ei_list (xs := (List.range (cellsN g s v)).map fun a => D.lst (iL (fillV g s u (cellD g s v a)))) (by walk_at "ev")) (by rw [hfl]; omega) fun a ha => ⟨_, tg_name, fun b0 => ?_⟩)).imp fun d ⟨xs, e1, e2⟩ => ?_
    · rw [hfl] at ha
      have eg : ((List.range (cellsN g s v)).map fun a => D.lst (iL (fillV g s u (cellD g s v a)))).getD a .non = .lst (iL (fillV g s u (cellD g s v a))) := by
        rw [List.getD_eq_getElem?_getD, List.getElem?_map, List.getElem?_eq_getElem (by rw [List.length_range]; exact ha), List.getElem_range]
        rfl
      rw [eg]
      exact ev_op (x := .lst (iL (fillV g s u (cellD g s v a)))) (y := .int (p : Int)) (by walk_at "ev") (by walk_at "ev") (o_ixL (atI_iL (by rw [fillV_len]; exact hp')))
    · rw [e1, e2, hfl]
      unfold colV iL
      rw [List.map_map]
      rfl
  · rw [e, Int.toNat_natCast]
    rfl

--OPT fdarg T.t_NoPlace T.t_NoShape
def exU (C1 C2 : Addr) (kds : List (Key × D)) (m : Nat) (t : D) (X : Addr) (fs : List (Str × D)) : Prop := exS C2 t X fs ∨ ∃ (g s u : Nat) (p : Int), t = shD g s u ∧ ShOk g s u ∧ lackV g s kds m = some p ∧ X = C1 ∧ fs = [(("place" : Str), .int p)]
def fd_unlaid (C1 C2 : Addr) : Fd := { n := 3, dom := fun ds => ∃ (kds : List (Key × D)) (m : Nat) (t : D), ds = [.dct kds, .int (m : Int), t] ∧ m ≤ 1000 ∧ plainT t ∧ ∀ g s u : Nat, t = shD g s u → ShOk g s u → okU g s kds m, res := fun ds r => ∃ (kds : List (Key × D)) (m g s u : Nat), ds = [.dct kds, .int (m : Int), shD g s u] ∧ ShOk g s u ∧ lackV g s kds m = none ∧ r = .lst ((List.range m).map (unV g s kds)), exn := fun ds X fs => ∃ (kds : List (Key × D)) (m : Nat) (t : D), ds = [.dct kds, .int (m : Int), t] ∧ exU C1 C2 kds m t X fs, own := true }
theorem cl_unlaid {C1 C2 : Addr} {g s u m : Nat} {kds : List (Key × D)} (h : ShOk g s u) (hm : m ≤ 1000) (ho : okU g s kds m) (hl : lackV g s kds m = none) : Cal (fd_unlaid C1 C2) [.dct kds, .int (m : Int), shD g s u] (.lst ((List.range m).map (unV g s kds))) := ⟨rfl, ⟨kds, m, _, rfl, hm, plainT_sh g s u, fun g' s' u' e _ => by
  obtain ⟨e1, e2, _⟩ := shD_inj e
  have e1 : g = g' := by omega
  have e2 : s = s' := by omega
  subst e1 e2
  exact ho⟩, rfl, fun d ⟨k', m', g', s', u', e, _, _, q⟩ => by
  injection e with e1 e
  injection e with e2 e
  injection e with e3 e
  injection e1 with e1
  injection e2 with e2
  obtain ⟨rfl, rfl, rfl⟩ := shD_inj e3
  have e2 : m = m' := by omega
  rw [q, e1, e2], fun X fs ⟨k', m', t', e, q⟩ => by
  injection e with e1 e
  injection e with e2 e
  injection e with e3 e
  injection e1 with e1
  injection e2 with e2
  have e2 : m = m' := by omega
  rw [← e3, ← e1, ← e2] at q
  rcases q with q | ⟨g', s', u', p, e, _, q, _⟩
  · exact exS_no h q
  · obtain ⟨rfl, rfl, rfl⟩ := shD_inj e
    rw [hl] at q
    cases q⟩
theorem ok_unlaid (T : Txt K mg) : FnOk P w K mg base (L2.CX P w) 5 T.f_unlaid T.fd_unlaid ["pieces", "many", "shape"] (SpD K (fd_unlaid T.t_NoPlace T.t_NoShape)) := by
  refine fn_data (N := N_unlaid) (.inl T.F_unlaid) sc_unlaid rfl (fun cdv A outer s H E hr tk => ?_)
  refine ⟨_, (pss_cons (ps_set (i := 3) sc_unlaid.nd rfl (Or.inl rfl) (pe_cl0 (m := 1) (ok_data_places T) (hr.mono (by decide)) rfl T.g_data_places T.k_data_places T.b_data_places_0_shape (passD tk) (pk_cons (pv 2) pk_nil)))
      (pss_cons (ps_for (passes_of rfl) rfl (g_list (K := K) rfl (pe_slice (g_slice (K := K) rfl) (pv 3) po_none (po_some (pv 1)))) (pg_name (i := 4) sc_unlaid.nd rfl (Or.inl rfl)) (pss_one (ps_if (pt_cmpR (g_notin (K := K) rfl hr) (pv 4) (pv 0) (by rfl)) (pss_one (g_raise1 (K := K) rfl rfl (x_NoPlace T) (hr.mono (by decide)) tk (by rfl) T.g_NoPlace (pv 4))) pss_nil)))
      (pss_cons (ps_set (i := 5) sc_unlaid.nd rfl (Or.inl rfl) (pe_lst pa_nil))
      (pss_cons (ps_for (passes_of rfl) rfl (pi_range1 rfl T.b_range (pa_cons (pv 1) pa_nil)) (pg_name (i := 6) sc_unlaid.nd rfl (Or.inl rfl)) (pss_cons (ps_asg (pe_callB g_divmod rfl T.b_divmod boot_divmod (pa_cons (pv 6) (pa_cons (pe_callB (g_len (K := K) rfl) rfl T.b_len boot_len (pa_cons (pv 3) pa_nil)) pa_nil))) (g_tup (K := K) (n := 2) rfl rfl (pgs_cons (pg_name (i := 7) sc_unlaid.nd rfl (Or.inl rfl)) (pgs_cons (pg_name (i := 8) sc_unlaid.nd rfl (Or.inl rfl)) pgs_nil))))
      (pss_one (ps_expr (g_bm (K := K) rfl PySem.F.plainAttrs_list PySem.F.slot_list_append PySem.F.type_list_append g_append (pv 5) (pa_cons (pe_ix (g_ix (K := K) rfl hr) (pe_ix (g_ix (K := K) rfl hr) (pv 0) (pe_ix (g_ix (K := K) rfl hr) (pv 3) (pv 8) (fun _ _ => rfl)) (fun _ _ => rfl)) (pv 7) (fun _ _ => rfl)) pa_nil))))))
      (pss_one (ps_ret (pv 5))))))), fun ds N' b hl hd acc => ?_⟩
  obtain ⟨kds, m, t, rfl, hm, hp, ho⟩ := hd
  refine w_seq (ws_asg (b' := (fd_unlaid T.t_NoPlace T.t_NoShape).cost [.dct kds, .int (m : Int), t] + b) (evs_calXK (es := []) (fs := [t]) (by walk_at "ev") (by walk_at "ev") rfl rfl rfl ⟨t, rfl, hp⟩ (Nat.le_of_eq (Nat.zero_add _)) acc (fun z => nomatch z) fun C x ⟨d', e, q⟩ => by cases e; exact ⟨Nat.le_add_left _ _, kds, m, t, rfl, .inl q⟩) fun r ⟨g, s, u, e, h, q⟩ => ?_)
  cases e
  rw [q]
  have ho := ho g s u rfl h
  obtain ⟨⟨g0, g1⟩, ⟨s0, s1⟩, u1⟩ := h.nat
  have hl := dataP_len' g s
  have hgs : g * s ≤ 16 := Nat.mul_le_mul g1 s1
  have w0 : 1 ≤ g * s := Nat.mul_le_mul g0 s0
  have gsi : (g : Int) * (s : Int) = ((g * s : Nat) : Int) := by push_cast; rfl
  have htl : ((dataP g s).take m).length ≤ 16 := by rw [List.length_take]; omega
  refine w_seq (w_for allV (fun i ds b' => ∃ s4 s5 s6 s7 s8 : Sd, ds = [.dat (.dct kds), .dat (.int (m : Int)), .dat (shD g s u), .dat (.lst (iL (dataP g s))), s4, s5, s6, s7, s8] ∧ (∀ j, j < i → ∀ p, ((dataP g s).take m)[j]? = some p → hasK kds p = true) ∧ b' = (fd_unlaid T.t_NoPlace T.t_NoShape).cost [.dct kds, .int (m : Int), shD g s u] + b) (ei_list (xs := iL ((dataP g s).take m)) (EvD.eq (ev_slice (x := .lst (iL (dataP g s))) (by walk_at "ev") ep_none (ep_some (by walk_at "ev")) sl_L) (by rw [slc_take]; unfold iL; rw [List.map_take]))) ⟨_, _, _, _, _, rfl, fun j hj => absurd hj (Nat.not_lt_zero _), by rfl⟩ ?_ ?_)
  · rintro i ds' b' hi ⟨s4, s5, s6, s7, s8, rfl, hpre, rfl⟩
    have hi : i < ((dataP g s).take m).length := by rw [iL_len] at hi; exact hi
    rw [getD_iL hi]
    have hi? : ((dataP g s).take m)[i]? = some (((dataP g s).take m).getD i 0) := by rw [List.getD_eq_getElem?_getD, List.getElem?_eq_getElem hi]; rfl
    generalize hp : ((dataP g s).take m).getD i 0 = p at *
    refine ⟨_, tg_name, ?_⟩
    refine w_if (c := !hasK kds p) (et_tst (ev_op (x := .int p) (y := .dct kds) (by walk_at "ev") (by walk_at "ev") (o_notinK (k := .inl p)))) (fun h1 => ?_) (fun h1 => w_next ?_)
    · refine w_raise1 acc T.o_NoPlace T.n_NoPlace (by walk_at "ev") ⟨by walk_at "b", kds, m, _, rfl, .inr ⟨g, s, u, p, rfl, h, ?_, rfl, rfl⟩⟩
      unfold lackV
      rw [List.find?_eq_some_iff_getElem]
      refine ⟨h1, i, hi, ?_, fun j hj => ?_⟩
      · rw [List.getElem?_eq_getElem hi] at hi?
        injection hi?
      · have q := hpre j hj _ (List.getElem?_eq_getElem (by omega))
        rw [q]; rfl
    · refine ⟨_, _, _, _, _, rfl, fun j hj q hq => ?_, rfl⟩
      by_cases hji : j = i
      · subst hji
        rw [hi?] at hq
        cases hq
        simpa using h1
      · exact hpre j (by omega) q hq
  · rintro ds' b' ⟨s4, s5, s6, s7, s8, rfl, hpre, rfl⟩
    have hno : lackV g s kds m = none := by
      unfold lackV
      rw [List.find?_eq_none]
      intro p hp
      obtain ⟨j, hj, rfl⟩ := List.getElem_of_mem hp
      have q := hpre j (by rw [iL_len]; exact hj) _ (List.getElem?_eq_getElem hj)
      rw [q]; exact fun z => nomatch z
    refine w_seq (w_own (i := 5) (es := []) ea_nil (w_seq ?_))
    refine w_for allV (fun i ds b' => ∃ s6 s7 s8 : Sd, ds = [.dat (.dct kds), .dat (.int (m : Int)), .dat (shD g s u), .dat (.lst (iL (dataP g s))), s4, .own ((List.range i).map (unV g s kds)), s6, s7, s8] ∧ b' = (fd_unlaid T.t_NoPlace T.t_NoShape).cost [.dct kds, .int (m : Int), shD g s u] + b) (ei_r1 (n := (m : Int)) (by walk_at "ev") (by omega)) ⟨_, _, _, rfl, by rfl⟩ ?_ ?_
    · rintro k ds' b' hk ⟨s6, s7, s8, rfl, rfl⟩
      have hk : k < m := by omega
      refine ⟨_, tg_name, ?_⟩
      have e1 : ((iL (dataP g s)).length : Int) = ((g * s : Nat) : Int) := by rw [iL_len, hl]
      refine w_seq (w_tg (d := .tup [.int ((k : Int) / ((g * s : Nat) : Int)), .int ((k : Int) % ((g * s : Nat) : Int))]) (ev_cb (es := [.int (k : Int), .int ((g * s : Nat) : Int)]) (ea_cons (by walk_at "ev") (ea_cons (EvD.eq (ev_cb (ea_cons (ev_var rfl) ea_nil) c_lenL) (by rw [e1])) ea_nil)) (c_divm (by omega) (by omega))) (by walk_at "tg") ?_)
      have hmem : spotI g s (k : Int) ∈ (dataP g s).take m := by
        obtain ⟨_, hlt⟩ := spot_mem g0 s0 (k : Int)
        have em : ((k : Int) % ((g : Int) * (s : Int))).toNat = k % (g * s) := by rw [gsi]; omega
        unfold spotI
        rw [em] at hlt ⊢
        have hkm : k % (g * s) < m := Nat.lt_of_le_of_lt (Nat.mod_le _ _) hk
        rw [List.getD_eq_getElem?_getD, List.getElem?_eq_getElem hlt]
        exact List.mem_of_getElem? (i := k % (g * s)) (by rw [List.getElem?_take_of_lt hkm, List.getElem?_eq_getElem hlt]; rfl)
      have hhas : hasK kds (spotI g s (k : Int)) = true := by
        obtain ⟨j, hj, e⟩ := List.getElem_of_mem hmem
        rw [← e]
        exact hpre j (by rw [iL_len]; exact hj) _ (List.getElem?_eq_getElem hj)
      rw [hasK_lk] at hhas
      obtain ⟨d, hd⟩ := Option.isSome_iff_exists.mp hhas
      obtain ⟨xs, rfl, hx⟩ := ho k hk d hd
      have hat : L2.atI (iL (dataP g s)) ((k : Int) % ((g * s : Nat) : Int)) = some (.int (spotI g s (k : Int))) := by
        obtain ⟨_, hlt⟩ := spot_mem g0 s0 (k : Int)
        rw [gsi] at hlt
        refine atI_nn (Int.emod_nonneg _ (by omega)) ?_
        unfold spotI iL
        rw [gsi]
        generalize ((k : Int) % ((g * s : Nat) : Int)).toNat = j at hlt ⊢
        rw [List.getElem?_map, List.getD_eq_getElem?_getD, List.getElem?_eq_getElem hlt]
        rfl
      have hv : L2.atI xs ((k : Int) / ((g * s : Nat) : Int)) = some (unV g s kds k) := by
        have ek : ((k : Int) / ((g * s : Nat) : Int)) = ((k / (g * s) : Nat) : Int) := by push_cast; rfl
        refine atI_nn (by rw [ek]; exact Int.natCast_nonneg _) ?_
        rw [ek, Int.toNat_natCast]
        unfold unV
        rw [hd]
        show _ = some (xs.getD (k / (g * s)) .non)
        rw [List.getD_eq_getElem?_getD, List.getElem?_eq_getElem hx]
        rfl
      refine w_app (i := 5) rfl (ev_op (x := .lst xs) (y := .int ((k : Int) / ((g * s : Nat) : Int))) (ev_op (x := .dct kds) (y := kD (.inl (spotI g s (k : Int)))) (ev_var rfl) (ev_op (x := .lst (iL (dataP g s))) (y := .int ((k : Int) % ((g * s : Nat) : Int))) (ev_var rfl) (ev_var rfl) (o_ixL hat)) (o_ixD hd)) (ev_var rfl) (o_ixL hv)) (by rw [List.length_map, List.length_range]; omega) ?_
      have er : (List.range k).map (unV g s kds) ++ [unV g s kds k] = (List.range (k + 1)).map (unV g s kds) := by rw [List.range_succ, List.map_append]; rfl
      rw [er]
      exact ⟨_, _, _, rfl, rfl⟩
    · rintro ds' b' ⟨s6, s7, s8, rfl, rfl⟩
      refine w_retO (i := 5) rfl ⟨by walk_at "b", kds, m, g, s, u, rfl, h, hno, ?_⟩
      rw [Int.toNat_natCast]

--OPT fdarg T.t_NoShape
def fd_needed (C : Addr) : Fd := { n := 3, dom := fun ds => ∃ (m n : Int) (d : D), ds = [.int m, .int n, d] ∧ (0 ≤ m ∧ m ≤ 60) ∧ (0 ≤ n ∧ n ≤ 60) ∧ plainT d, res := fun ds r => ∃ (m n : Int) (g s u : Nat), ds = [.int m, .int n, shD g s u] ∧ ShOk g s u ∧ r = .lst (iL (needV g s m n)), exn := fun ds X fs => ∃ (m n : Int) (d : D), ds = [.int m, .int n, d] ∧ exS C d X fs }
theorem cl_needed {C : Addr} {g s u : Nat} {m n : Int} (h : ShOk g s u) (hm : 0 ≤ m ∧ m ≤ 60) (hn : 0 ≤ n ∧ n ≤ 60) : Cal (fd_needed C) [.int m, .int n, shD g s u] (.lst (iL (needV g s m n))) := ⟨rfl, ⟨m, n, _, rfl, hm, hn, plainT_sh g s u⟩, rfl, fun d ⟨m', n', g', s', u', e, q1, q2⟩ => by
  injection e with e1 e
  injection e with e2 e
  injection e with e3 e
  injection e1 with e1
  injection e2 with e2
  obtain ⟨rfl, rfl, rfl⟩ := shD_inj e3
  rw [q2, e1, e2], fun X fs ⟨m', n', d', e, q⟩ => by
  injection e with e1 e
  injection e with e2 e
  injection e with e3 e
  rw [← e3] at q
  exact exS_no h q⟩
theorem ok_needed (T : Txt K mg) : FnOk P w K mg base (L2.CX P w) 5 T.f_needed T.fd_needed ["first", "behind", "shape"] (SpD K (fd_needed T.t_NoShape)) := by
  refine fn_data (N := N_needed) (.inl T.F_needed) sc_needed rfl (fun cdv A outer s H E hr tk => ?_)
  refine ⟨_, (pss_cons (ps_set (i := 3) sc_needed.nd rfl (Or.inr rfl) (pe_cl0 (m := 1) (ok_data_places T) (hr.mono (by decide)) rfl T.g_data_places T.k_data_places T.b_data_places_0_shape (passD tk) (pk_cons (pv 2) pk_nil)))
      (pss_one (ps_ret (g_sortSc (w := w) (K := K) (own := [("at", 4)]) rfl rfl T.b_sorted rfl sc_needed.nd (pi_range2 rfl T.b_range (pa_cons (pv 0) (pa_cons (pv 1) pa_nil))) (blkOk_by (own := [("at", 4)]) (N := N_needed) (sc := defScope s_needed) (by decide +kernel)) (fun _ _ _ _ _ => (pg_name (i := 4) sc_needed.nd rfl (Or.inl rfl))) (fun _ _ _ _ _ => pts_nil) (fun _ _ _ _ _ => (pe_ix (g_ix (K := K) rfl hr) (pv 3) (pe_op g_mod (pv 4) (pe_callB (g_len (K := K) rfl) rfl T.b_len boot_len (pa_cons (pv 3) pa_nil))) (fun _ _ => rfl))))))), fun ds N' b hl hd acc => ?_⟩
  obtain ⟨m, n, d, rfl, hm, hn, hp⟩ := hd
  refine w_seq (ws_asg (b' := (fd_needed T.t_NoShape).cost [.int m, .int n, d] + b) (evs_calXK (es := []) (fs := [d]) (by walk_at "ev") (by walk_at "ev") rfl rfl rfl ⟨d, rfl, hp⟩ (Nat.le_of_eq (Nat.zero_add _)) acc (fun z => nomatch z) fun C x ⟨d', e, q⟩ => by cases e; exact ⟨Nat.le_add_left _ _, m, n, d, rfl, q⟩) fun r ⟨g, s, u, e, h, q⟩ => ?_)
  cases e
  rw [q]
  obtain ⟨⟨g0, g1⟩, ⟨s0, s1⟩, u1⟩ := h.nat
  have hl := dataP_len' g s
  have hl2 : (dataP g s).length ≤ 16 := by rw [hl]; exact Nat.mul_le_mul g1 s1
  refine ws_ret (evs_sortScR (m := m) (n := n) (fun i => spotI g s (m + i)) (dataP g s) (by walk_at "ev") (by omega) (by decide) (by omega) (fun i hi => (spot_mem g0 s0 _).1) fun i hi => ?_) fun d' ⟨ns, e, hs, hk⟩ => ⟨by walk_at "b", m, n, g, s, u, rfl, h, ?_⟩
  · have e1 : ((iL (dataP g s)).length : Int) = (g : Int) * (s : Int) := by rw [iL_len, hl]; push_cast; rfl
    refine evp_ixL (m := (m + i) % ((g : Int) * (s : Int))) (evp_var rfl) (EvP.eq (evp_mod (m := m + i) (evp_var rfl) (evp_len (xs := iL (dataP g s)) (evp_var rfl)) (by rw [e1]; exact Int.mul_pos (by omega) (by omega))) (by rw [e1])) ?_
    have hlt := (spot_mem g0 s0 (m + i)).2
    refine atI_nn (Int.emod_nonneg _ (by have : 0 < (g : Int) * (s : Int) := Int.mul_pos (by omega) (by omega); omega)) ?_
    unfold spotI iL
    generalize ((m + (i : Int)) % ((g : Int) * (s : Int))).toNat = j at hlt ⊢
    rw [List.getElem?_map, List.getD_eq_getElem?_getD, List.getElem?_eq_getElem hlt]
    rfl
  · rw [e]
    have e2 : ns = needV g s m n := sorted_ext hs (need_up g s m n) fun k => by rw [hk, need_mem g0 s0]
    rw [e2]

--OPT own 1
theorem ok__law_purse (T : Txt K mg) : FnOk P w K mg base (L2.CX P w) 1 T.f__law_purse T.fd__law_purse ["script", "k"] (SpD K fdMake) := by
  refine make_fn (N := N__law_purse) T.F__law_purse sc__law_purse rfl (fun cdv A outer s H E hr tk => ?_)
  refine ⟨_, (pss_cons (ps_set (i := 2) sc__law_purse.nd rfl (Or.inl rfl) pe_int)
      (pss_cons (ps_if (pt_cmpR g_lt (pv 1) (pe_callB (g_len (K := K) rfl) rfl T.b_len boot_len (pa_cons (pv 0) pa_nil)) (nomark _)) (pss_one (ps_set (i := 2) sc__law_purse.nd rfl (Or.inl rfl) (pe_ix (g_ix (K := K) rfl hr) (pv 0) (pv 1) (fun _ _ => rfl)))) pss_nil)
      (pss_one (ps_ret (pe_lst (pa_cons (pe_callB (g_max rfl) rfl T.b_max boot_max (pa_cons pe_int (pa_cons (pe_op g_sub (pv 2) (pe_op g_pow pe_int pe_int)) pa_nil))) (pa_cons (pe_op (g_add (K := K) rfl) (pe_op g_mod (pv 2) (pe_op (g_add (K := K) rfl) (pe_op g_pow pe_int pe_int) pe_int)) (pe_op g_mul pe_int (pv 1))) (pa_cons pe_int pa_nil)))))))), fun M0 ns k b hk0 hk1 => ?_⟩
  have key : ∀ c : Int, PGood 0 (max 0 (c - 10 ^ 18)) (c % (10 ^ 60 + 7) + 611953 * k) 0 := fun c => ⟨Int.le_refl _, Int.le_refl _, by
    have h1 := Int.emod_nonneg c (b := 10 ^ 60 + 7) (by decide)
    have h2 := Int.emod_lt_of_pos c (b := 10 ^ 60 + 7) (by decide)
    omega⟩
  refine w_seq (w_asg (by walk_at "ev") (w_seq (w_if (by walk_at "ev") (fun h => ?_) (fun h => ?_))))
  · have hk := of_decide_eq_true h
    have hg : k.toNat < ns.length := by omega
    refine w_asg (by walk_at "ev"; exact atI_nn hk0 (List.getElem?_eq_getElem hg)) ?_
    refine w_ret (by walk_at "ev") ?_
    exact ⟨Nat.le_refl _, _, _, rfl, key _⟩
  · refine w_next ?_
    refine w_ret (by walk_at "ev") ?_
    exact ⟨Nat.le_refl _, _, _, rfl, key _⟩

--OPT own 1
theorem ok__law_drawn (T : Txt K mg) : FnOk P w K mg base (L2.CX P w) 1 T.f__law_drawn T.fd__law_drawn ["purse", "many"] (SpD K fdDraw) := by
  refine draw_fn (N := N__law_drawn) T.F__law_drawn sc__law_drawn rfl (fun cdv A outer s H E hr tk => ?_)
  refine ⟨_, (pss_cons (ps_if (pt_cmpR g_gt (pe_ix (g_ix (K := K) rfl hr) (pv 0) pe_int (fun _ _ => rfl)) pe_int (nomark _)) (pss_cons (ps_set (i := 2) sc__law_drawn.nd rfl (Or.inl rfl) (pe_op g_mod (pe_ix (g_ix (K := K) rfl hr) (pv 0) pe_int (fun _ _ => rfl)) (pv 1)))
      (pss_cons (ps_asg (pe_op g_div (pe_ix (g_ix (K := K) rfl hr) (pv 0) pe_int (fun _ _ => rfl)) (pv 1)) (pg_sub (pv 0) pe_int (g_set hr)))
      (pss_one (ps_ret (pv 2))))) pss_nil)
      (pss_cons (ps_set (i := 3) sc__law_drawn.nd rfl (Or.inl rfl) (pe_op (g_add (K := K) rfl) (pe_ix (g_ix (K := K) rfl hr) (pv 0) pe_int (fun _ _ => rfl)) pe_int))
      (pss_cons (ps_asg (pv 3) (pg_sub (pv 0) pe_int (g_set hr)))
      (pss_cons (ps_set (i := 4) sc__law_drawn.nd rfl (Or.inl rfl) (pe_op g_mod (pe_op g_pow (pe_op (g_add (K := K) rfl) (pe_op (g_add (K := K) rfl) (pe_ix (g_ix (K := K) rfl hr) (pv 0) pe_int (fun _ _ => rfl)) (pe_op g_mul (pe_op g_mul pe_int (pv 3)) (pv 3))) (pe_op g_mul pe_int (pv 3))) pe_int) (pe_op (g_add (K := K) rfl) (pe_op g_pow pe_int pe_int) pe_int)))
      (pss_cons (ps_set (i := 4) sc__law_drawn.nd rfl (Or.inl rfl) (pe_op g_mod (pe_op g_pow (pe_op (g_add (K := K) rfl) (pv 4) (pe_op g_mul pe_int (pv 3))) pe_int) (pe_op (g_add (K := K) rfl) (pe_op g_pow pe_int pe_int) pe_int)))
      (pss_one (ps_ret (pe_op g_mod (pe_op g_div (pv 4) pe_int) (pv 1))))))))), fun p x y z m n b hm0 hm1 g hn => ?_⟩
  obtain ⟨g1, g2, g3⟩ := g
  have hL : LIM = 2 ^ 60 := rfl
  refine w_seq (w_if (by walk_at "ev") (fun h => ?_) (fun h => ?_))
  · refine w_seq (w_asg (by walk_at "ev") (w_seq ?_))
    refine w_setP rfl (by walk_at "ev"; exact wide_div hm0 (b := 201) (by omega) (by decide) (by decide)) (by walk_at "ev") (by decide) (by exact (by decide : (0 : Int) < 3)) ?_
    refine w_ret (by walk_at "ev") ?_
    exact ⟨Nat.le_refl _, x % m, x / m, y, z, rfl, Int.emod_nonneg _ (by omega), Int.emod_lt_of_pos _ hm0, rfl, g1, by omega, g3⟩
  · refine w_next ?_
    refine w_seq (w_asg (by walk_at "ev") (w_seq ?_))
    refine w_setP rfl (by walk_at "ev") (by walk_at "ev") (by decide) (by exact (by decide : (2 : Int) < 3)) ?_
    have hz : (z + 1).natAbs < 2 ^ 61 := by omega
    have h1 : (15485863 * (z + 1)).natAbs < 2 ^ 85 := by omega
    have h2 : (15485863 * (z + 1) * (z + 1)).natAbs < 2 ^ 146 := wide_lt (a := 85) (b := 61) h1 hz
    have h3 : (32452843 * (z + 1)).natAbs < 2 ^ 86 := by omega
    refine w_seq (ws_asg (R := fun d => ∃ q : Int, d = .int q ∧ 0 ≤ q ∧ q < 2 ^ 60) (EvD.to (by
      walk_at "ev"
      exact cpow_small 257 (by omega) (by decide) (by decide)) ⟨_, rfl, Int.emod_nonneg _ (by decide), Int.lt_trans (Int.emod_lt_of_pos _ (by decide)) (by decide)⟩) ?_)
    rintro _ ⟨q, rfl, q0, q1⟩
    refine w_seq (w_asg (by
      walk_at "ev"
      exact cpow_small 90 (by omega) (by decide) (by decide)) ?_)
    refine w_ret (by walk_at "ev"; exact wide_div (by decide) (b := 20) (by decide) (by decide) (by decide)) ?_
    exact ⟨Nat.le_refl _, _, x, y, z + 1, rfl, Int.emod_nonneg _ (by omega), Int.emod_lt_of_pos _ hm0, rfl, by omega, by omega, g3⟩

/-- shapes with at most so many places -/
def okSh (most : Int) (d : D) : Prop := ∃ g s u : Nat, d = shD g s u ∧ ShOk g s u ∧ (many g s u : Int) ≤ most
def fd__law_shape : Fd := { n := 2, dom := fun ds => ∃ most : Int, ds = [.purse, .int most] ∧ 2 ≤ most ∧ most ≤ 100, cost := fun _ => 1, res := fun ds d => ∃ most : Int, ds = [.purse, .int most] ∧ okSh most d }
theorem cas__law_shape {most : Int} (h : 2 ≤ most) (h2 : most ≤ 100) : Cas fd__law_shape [.purse, .int most] 1 (okSh most) := ⟨rfl, ⟨most, rfl, h, h2⟩, Nat.le_refl _, fun d ⟨m, e, q⟩ => by cases e; exact q, fun _ _ q => q⟩
theorem atI_ex {xs : List D} {i : Int} (h0 : 0 ≤ i) (h1 : i < xs.length) : ∃ d, L2.atI xs i = some d ∧ d ∈ xs := by
  have hi : i.toNat < xs.length := by omega
  exact ⟨xs[i.toNat], atI_nn h0 (List.getElem?_eq_getElem hi), List.getElem_mem hi⟩
theorem ok__law_shape (T : Txt K mg) : FnOk P w K mg base (L2.CX P w) 2 T.f__law_shape T.fd__law_shape ["purse", "most"] (SpD K fd__law_shape) := by
  refine fn_data (dvs := []) (kws := []) (N := N__law_shape) (.inr T.F__law_shape) sc__law_shape rfl (fun cdv A outer s H E hr tk => ?_)
  refine ⟨_, (pss_cons (ps_set (i := 2) sc__law_shape.nd rfl (Or.inl rfl) (pe_lst pa_nil))
      (pss_cons (ps_for (passes_of rfl) rfl (pi_range2 rfl T.b_range (pa_cons pe_int (pa_cons pe_int pa_nil))) (pg_name (i := 3) sc__law_shape.nd rfl (Or.inr rfl)) (pss_one (ps_for (passes_of rfl) rfl (pi_range2 rfl T.b_range (pa_cons pe_int (pa_cons pe_int pa_nil))) (pg_name (i := 4) sc__law_shape.nd rfl (Or.inr rfl)) (pss_one (ps_expr (g_bm (K := K) rfl PySem.F.plainAttrs_list PySem.F.slot_list_extend PySem.F.type_list_extend g_extend (pv 2) (pa_cons (pe_lc (own := [("sums", 5)]) rfl sc__law_shape.nd (pi_range1 rfl T.b_range (pa_cons pe_int pa_nil)) (blkOk_by (own := [("sums", 5)]) (N := N__law_shape) (sc := defScope s__law_shape) (by decide +kernel)) (fun _ _ _ _ _ => (pg_name (i := 5) sc__law_shape.nd rfl (Or.inl rfl))) (fun _ _ _ _ _ => (pts_one (pt_cmpR g_le (pe_op (g_add (K := K) rfl) (pe_op g_mul (pv 3) (pe_op (g_add (K := K) rfl) (pv 4) pe_int)) (pv 5)) (pv 1) (nomark _)))) (fun _ _ _ _ _ => (pe_tup (pa_cons (pv 3) (pa_cons (pv 4) (pa_cons (pv 5) pa_nil)))))) pa_nil)))))))
      (pss_one (ps_ret (pe_ix (g_ix (K := K) rfl hr) (pv 2) (pe_cl (m := 0) (ok__law_drawn T) (hr.mono (by decide)) rfl T.g__law_drawn T.k__law_drawn T.b__law_drawn (passD tk) (pa_cons (pv 0) (pa_cons (pe_callB (g_len (K := K) rfl) rfl T.b_len boot_len (pa_cons (pv 2) pa_nil)) pa_nil)) pk_nil) (fun _ _ => rfl)))))), fun ds N' b hl hd acc => ?_⟩
  obtain ⟨most, rfl, hm, hm2⟩ := hd
  have hc : fd__law_shape.cost [.purse, .int most] + b = b + 1 := by show 1 + b = b + 1; omega
  rw [hc]
  refine w_seq (w_own (es := []) (by walk_at "ev") ?_)
  refine w_seq (w_for allV (fun i ds b' => ∃ (xs : List D) (s3 s4 s5 : Sd), ds = [.dat .purse, .dat (.int most), .own xs, s3, s4, s5] ∧ (∀ x ∈ xs, okSh most x) ∧ xs.length ≤ 12 * i ∧ (0 < i → 0 < xs.length) ∧ b' = b + 1) (ei_r2 (m := 1) (n := 5) (by walk_at "ev") (by omega)) ⟨[], _, _, _, rfl, (fun x hx => by cases hx), Nat.zero_le _, (fun h => absurd h (Nat.lt_irrefl _)), rfl⟩ ?_ ?_)
  · rintro i ds' b' hi ⟨xs, s3, s4, s5, rfl, hx, hl, hn, rfl⟩
    have hi4 : i < 4 := hi
    refine ⟨_, tg_name, ?_⟩
    refine w_for allV (fun j ds b' => ∃ (ys : List D) (s4 s5 : Sd), ds = [.dat .purse, .dat (.int most), .own ys, .dat (.int (1 + (i : Int))), s4, s5] ∧ (∀ x ∈ ys, okSh most x) ∧ ys.length ≤ 12 * i + 3 * j ∧ (0 < i + j → 0 < ys.length) ∧ b' = b + 1) (ei_r2 (m := 1) (n := 5) (by walk_at "ev") (by omega)) ⟨xs, _, _, rfl, hx, by omega, fun h => hn (by omega), rfl⟩ ?_ ?_
    · rintro j ds2 b2 hj ⟨ys, s4, s5, rfl, hy, hly, hny, rfl⟩
      have hj4 : j < 4 := hj
      refine ⟨_, tg_name, ?_⟩
      refine w_ext (ys := ((List.range 3).filter fun (k : Nat) => decide ((1 + (i : Int)) * ((1 + (j : Int)) + 1) + (k : Int) ≤ most)).map fun (k : Nat) => D.tup [.int (1 + (i : Int)), .int (1 + (j : Int)), .int (k : Int)]) rfl (ev_lc (fun (k : Nat) => decide ((1 + (i : Int)) * ((1 + (j : Int)) + 1) + (k : Int) ≤ most)) (fun (k : Nat) => D.tup [.int (1 + (i : Int)), .int (1 + (j : Int)), .int (k : Int)]) (ei_r1 (n := 3) (by walk_at "ev") (by omega)) (by decide) fun k hk => ⟨_, tg_name, fun b0 => ⟨by walk_at "ev", fun _ => by walk_at "ev"⟩⟩) ?_ ?_
      · rw [List.length_map]
        have := List.length_filter_le (fun (k : Nat) => decide ((1 + (i : Int)) * ((1 + (j : Int)) + 1) + (k : Int) ≤ most)) (List.range 3)
        rw [List.length_range] at this
        omega
      · have hlen := List.length_filter_le (fun (k : Nat) => decide ((1 + (i : Int)) * ((1 + (j : Int)) + 1) + (k : Int) ≤ most)) (List.range 3)
        rw [List.length_range] at hlen
        refine ⟨_, _, _, rfl, fun x hx => ?_, ?_, fun _ => ?_, rfl⟩
        · rcases List.mem_append.mp hx with hx | hx
          · exact hy x hx
          · obtain ⟨k, hk, rfl⟩ := List.mem_map.mp hx
            obtain ⟨k1, k2⟩ := List.mem_filter.mp hk
            have k1 := List.mem_range.mp k1
            have k2 := of_decide_eq_true k2
            refine ⟨i + 1, j + 1, k, ?_, ?_, ?_⟩
            · congr 1
              rw [show ((i + 1 : Nat) : Int) = 1 + (i : Int) by omega, show ((j + 1 : Nat) : Int) = 1 + (j : Int) by omega]
            · unfold ShOk; omega
            · unfold many
              push_cast
              rw [show (i : Int) + 1 = 1 + (i : Int) by omega, show (j : Int) + 1 = 1 + (j : Int) by omega]
              exact k2
        · rw [List.length_append, List.length_map]
          omega
        · rw [List.length_append, List.length_map]
          by_cases hij : 0 < i + j
          · have := hny hij
            omega
          · have hi0 : i = 0 := by omega
            have hj0 : j = 0 := by omega
            subst hi0 hj0
            have q : 0 < ((List.range 3).filter fun (k : Nat) => decide ((1 + ((0 : Nat) : Int)) * ((1 + ((0 : Nat) : Int)) + 1) + (k : Int) ≤ most)).length := by
              apply List.length_pos_of_mem (a := 0)
              rw [List.mem_filter]
              exact ⟨by decide, decide_eq_true (by show (1 + ((0 : Nat) : Int)) * ((1 + ((0 : Nat) : Int)) + 1) + ((0 : Nat) : Int) ≤ most; simp; omega)⟩
            omega
    · rintro ds2 b2 ⟨ys, s4, s5, rfl, hy, hly, hny, rfl⟩
      exact ⟨ys, _, _, _, rfl, hy, by have : (5 - 1 : Int).toNat = 4 := rfl; omega, fun _ => hny (by have : (5 - 1 : Int).toNat = 4 := rfl; omega), rfl⟩
  · rintro ds' b' ⟨xs, s3, s4, s5, rfl, hx, hl, hn, rfl⟩
    have h4 : (5 - 1 : Int).toNat = 4 := rfl
    rw [h4] at hl hn
    have hn := hn (by decide)
    refine ws_ret (R := okSh most) (evs_op (R1 := fun d => d = .lst xs) (R2' := fun _ y => ∃ i : Int, y = .int i ∧ 0 ≤ i ∧ i < xs.length) (ev_own rfl) (fun _ _ => evs_cal (b' := b) (c := 1) (by walk_at "ev") (cas_draw (m := (xs.length : Int)) (by omega) (by omega)) rfl (by omega)) fun x y hx1 ⟨i, e, h0, h1⟩ => ?_) ?_
    · subst hx1 e
      obtain ⟨d, e, hd⟩ := atI_ex h0 h1
      exact (o_ixL e).to (hx d hd)
    · intro d hd
      exact ⟨Nat.le_refl _, most, rfl, hd⟩

def RowD (d : D) : Prop := ∃ v : List Int, d = .lst (iL v) ∧ rowOk v
def fd__law_row : Fd := { n := 2, dom := fun ds => ∃ m : Int, ds = [.purse, .int m] ∧ 0 ≤ m ∧ m ≤ 60, cost := fun _ => 62, res := fun _ d => RowD d }
theorem cas__law_row {m : Int} (h0 : 0 ≤ m) (h1 : m ≤ 60) : Cas fd__law_row [.purse, .int m] 62 RowD := ⟨rfl, ⟨m, rfl, h0, h1⟩, Nat.le_refl _, fun d q => q, fun _ _ q => q⟩
theorem ok__law_row (T : Txt K mg) : FnOk P w K mg base (L2.CX P w) 2 T.f__law_row T.fd__law_row ["purse", "most"] (SpD K fd__law_row) := by
  refine fn_data (dvs := []) (kws := []) (N := N__law_row) (.inr T.F__law_row) sc__law_row rfl (fun cdv A outer s H E hr tk => ?_)
  refine ⟨_, (pss_one (ps_ret (pe_lc (own := [("k", 2)]) rfl sc__law_row.nd (pi_range1 rfl T.b_range (pa_cons (pe_cl (m := 0) (ok__law_drawn T) (hr.mono (by decide)) rfl T.g__law_drawn T.k__law_drawn T.b__law_drawn (passD tk) (pa_cons (pv 0) (pa_cons (pe_op (g_add (K := K) rfl) (pv 1) pe_int) pa_nil)) pk_nil) pa_nil)) (blkOk_by (own := [("k", 2)]) (N := N__law_row) (sc := defScope s__law_row) (by decide +kernel)) (fun _ _ _ _ _ => (pg_name (i := 2) sc__law_row.nd rfl (Or.inl rfl))) (fun _ _ _ _ _ => pts_nil) (fun _ _ _ _ _ => (pe_cl (m := 0) (ok__law_drawn T) (hr.mono (by decide)) rfl T.g__law_drawn T.k__law_drawn T.b__law_drawn pass_never (pa_cons (pv 0) (pa_cons pe_int pa_nil)) pk_nil))))), fun ds N' b hl hd acc => ?_⟩
  obtain ⟨m, rfl, m0, m1⟩ := hd
  have hc : fd__law_row.cost [.purse, .int m] + b = b + 62 := by show 62 + b = b + 62; omega
  rw [hc]
  refine ws_ret (R := RowD) ((EvO.evs (eos_r1S (b' := b) (b1 := b + 61) (Rn := fun n => 0 ≤ n ∧ n < m + 1) (R := fun xs => ∃ v : List Int, xs = iL v ∧ rowOk v) ((eas_one (p := true) (evs_cal (b' := b + 61) (by walk_at "ev") (cas_draw (m := m + 1) (by omega) (by omega)) rfl (by omega))).imp fun es ⟨z, e, n, e2, h⟩ => ⟨n, by rw [e, e2], h⟩) (fun n h => by omega) fun n ⟨n0, n1⟩ => EvO.imp (eos_lc 1 (fun i acc => ∃ v : List Int, acc = iL v ∧ v.length = i ∧ ∀ x ∈ v, 0 ≤ x ∧ x < 97) ei_R (by omega) ⟨[], rfl, rfl, fun x hx => by cases hx⟩ (fun i acc hi ⟨v, e, hl, hv⟩ => ⟨_, tg_name, fun b0 => ⟨true, et_yes, fun _ => (evs_cal (b' := b0) (by walk_at "ev") (cas_draw (m := 97) (by decide) (by decide)) rfl (by omega)).imp fun d ⟨z, e2, z0, z1⟩ => ⟨v ++ [z], by rw [e, e2, iL_app]; rfl, by simp [hl], fun x hx => ?_⟩, fun h => nomatch h⟩⟩) (fun acc ⟨v, e, hl, _⟩ => by rw [e, iL_len, hl]; exact Nat.le_refl _) (fun i acc ⟨v, e, hl, _⟩ => by rw [e, iL_len, hl]; exact Nat.le_refl _) (by omega)) fun xs ⟨v, e, hl, hv⟩ => ⟨v, e, by omega, hv⟩)).imp fun d ⟨xs, e, v, e2, h⟩ => ⟨v, by rw [e, e2], h⟩) fun d hd => ⟨Nat.le_refl _, hd⟩
  rcases List.mem_append.mp hx with hx | hx
  · exact hv x hx
  · rw [List.mem_singleton.mp hx]; exact ⟨z0, z1⟩

--OPT dicts pieces
def fd__law_read_back : Fd := { n := 2, dom := fun ds => ∃ (v : List Int) (g s u : Nat), ds = [.lst (iL v), shD g s u] ∧ ShOk g s u ∧ rowOk v, res := fun _ d => d = .bl true }
theorem cl__law_read_back {v : List Int} {g s u : Nat} (h : ShOk g s u) (hv : rowOk v) : Cal fd__law_read_back [.lst (iL v), shD g s u] (.bl true) := ⟨rfl, ⟨v, g, s, u, rfl, h, hv⟩, rfl, fun d q => q, fun _ _ q => q⟩
theorem ok__law_read_back (T : Txt K mg) : FnOk P w K mg base (L2.CX P w) 12 T.f__law_read_back T.fd__law_read_back ["row", "mould"] (SpD K fd__law_read_back) := by
  refine fn_data (dvs := []) (kws := []) (N := N__law_read_back) (.inr T.F__law_read_back) sc__law_read_back rfl (fun cdv A outer s H E hr tk => ?_)
  refine ⟨_, (pss_cons (ps_set (i := 2) sc__law_read_back.nd rfl (Or.inr rfl) (pe_cl (m := 1) (ok_laid T) (hr.mono (by decide)) rfl T.g_laid T.k_laid T.b_laid_1_shape (passD tk) (pa_cons (pv 0) pa_nil) (pk_cons (pv 1) pk_nil)))
      (pss_cons (ps_for (passes_of rfl) rfl (pi_range1 rfl T.b_range (pa_cons (pe_cl (m := 1) (ok_cells_for T) (hr.mono (by decide)) rfl T.g_cells_for T.k_cells_for T.b_cells_for_1_shape (passD tk) (pa_cons (pe_callB (g_len (K := K) rfl) rfl T.b_len boot_len (pa_cons (pv 0) pa_nil)) pa_nil) (pk_cons (pv 1) pk_nil)) pa_nil)) (pg_name (i := 3) sc__law_read_back.nd rfl (Or.inr rfl)) (pss_one (ps_if (pt_not (g_tru (K := K) rfl (pe_cl (m := 1) (ok_is_filling T) (hr.mono (by decide)) rfl T.g_is_filling T.k_is_filling T.b_is_filling_1_shape (passD tk) (pa_cons (pe_lc (own := [("place", 5)]) rfl sc__law_read_back.nd (pi_range1 rfl T.b_range (pa_cons (pe_cl0 (m := 1) (ok_count T) (hr.mono (by decide)) rfl T.g_count T.k_count T.b_count_0_shape (passD tk) (pk_cons (pv 1) pk_nil)) pa_nil)) (blkOk_by (own := [("place", 5)]) (N := N__law_read_back) (sc := defScope s__law_read_back) (by decide +kernel)) (fun _ _ _ _ _ => (pg_name (i := 5) sc__law_read_back.nd rfl (Or.inl rfl))) (fun _ _ _ _ _ => pts_nil) (fun _ _ _ _ _ => (pe_ix (g_ix (K := K) rfl hr) (pe_ix (g_ix (K := K) rfl hr) (pv 2) (pv 5) (fun _ _ => rfl)) (pv 3) (fun _ _ => rfl)))) pa_nil) (pk_cons (pv 1) pk_nil)) (fun _ => rfl))) (pss_one (ps_ret pe_bl)) pss_nil)))
      (pss_cons (ps_set (i := 4) sc__law_read_back.nd rfl (Or.inl rfl) pe_dnewK)
      (pss_cons (ps_for (passes_of rfl) rfl (g_list (K := K) rfl (pe_cl (m := 1) (ok_needed T) (hr.mono (by decide)) rfl T.g_needed T.k_needed T.b_needed_2_shape (passD tk) (pa_cons pe_int (pa_cons (pe_callB (g_len (K := K) rfl) rfl T.b_len boot_len (pa_cons (pv 0) pa_nil)) pa_nil)) (pk_cons (pv 1) pk_nil))) (pg_name (i := 5) sc__law_read_back.nd rfl (Or.inl rfl)) (pss_one (ps_asg (pe_ix (g_ix (K := K) rfl hr) (pv 2) (pv 5) (fun _ _ => rfl)) (pg_sub (pv 4) (pv 5) (g_set hr)))))
      (pss_one (ps_ret (pe_and (pe_cmpR (g_eq (K := K) rfl hr) (pe_callB g_lenD rfl T.b_len boot_len (pa_cons (pv 2) pa_nil)) (pe_cl0 (m := 1) (ok_count T) (hr.mono (by decide)) rfl T.g_count T.k_count T.b_count_0_shape (passD tk) (pk_cons (pv 1) pk_nil)) (nomark _)) (pe_one (pe_cmpR (g_eq (K := K) rfl hr) (pe_cl (m := 1) (ok_unlaid T) (hr.mono (by decide)) rfl T.g_unlaid T.k_unlaid T.b_unlaid_2_shape (passD tk) (pa_cons (pv 4) (pa_cons (pe_callB (g_len (K := K) rfl) rfl T.b_len boot_len (pa_cons (pv 0) pa_nil)) pa_nil)) (pk_cons (pv 1) pk_nil)) (pv 0) (nomark _)))))))))), fun ds N' b hl hd acc => ?_⟩
  obtain ⟨v, g, s, u, rfl, h, hv⟩ := hd
  obtain ⟨⟨g0, g1⟩, ⟨s0, s1⟩, u1⟩ := h.nat
  have hm := h.many
  have hmm : many g s u = g * (s + 1) + u := rfl
  have hgs : g * s ≤ 16 := Nat.mul_le_mul g1 s1
  have w0 : 1 ≤ g * s := Nat.mul_le_mul g0 s0
  have hcn := cells_small g0 s0 hv
  obtain ⟨k1, k2, k3⟩ := cells_bd (v := v) g0 s0
  have hv60 := hv.1
  have hmany : many g s u ≤ 22 := by
    have : g * (s + 1) ≤ 4 * 5 := Nat.mul_le_mul g1 (Nat.succ_le_succ s1)
    omega
  have cL : Cal (fd_laid T.t_NoShape T.t_NoRow) [.lst (iL v), shD g s u] (.dct (laidK g s u v)) := cl_laid h hv
  have cc : Cal (fd_cells_for T.t_NoShape) [.int (v.length : Int), shD g s u] (.int (cellsN g s v : Int)) := by
    have q := cl_cells_for (C := T.t_NoShape) (m := (v.length : Int)) h (by have := hv.1; omega)
    rw [k1] at q
    exact q
  have cc2 : Cal (fd_count T.t_NoShape) [shD g s u] (.int (many g s u : Nat)) := by
    have q := cl_count (C := T.t_NoShape) h
    have hmi : ((g : Int) * ((s : Int) + 1) + u) = ((many g s u : Nat) : Int) := by unfold many; push_cast; rfl
    rw [hmi] at q
    exact q
  have cn : Cal (fd_needed T.t_NoShape) [.int 0, .int (v.length : Int), shD g s u] (.lst (iL (needV g s 0 (v.length : Int)))) := cl_needed h (by omega) (by omega)
  have hnl : (needV g s 0 (v.length : Int)).length ≤ 16 := Nat.le_trans need_len hgs
  have hnd : (needV g s 0 (v.length : Int)).Nodup := (need_up g s 0 (v.length : Int)).imp fun h z => by omega
  have hnm : ∀ p, p ∈ needV g s 0 (v.length : Int) ↔ ∃ k : Nat, k < v.length ∧ spotI g s (k : Int) = p := fun p => by
    rw [need_mem g0 s0]
    refine ⟨fun ⟨k, hk, e⟩ => ⟨k, by omega, by rw [← e, Int.zero_add]⟩, fun ⟨k, hk, e⟩ => ⟨k, by omega, by rw [← e, Int.zero_add]⟩⟩
  generalize hne : needV g s 0 (v.length : Int) = need at *
  refine w_seq (w_asg (d := .dct (laidK g s u v)) (ev_calK (es := [.lst (iL v)]) (fs := [shD g s u]) (by walk_at "ev") (by walk_at "ev") cL rfl rfl) (w_seq ?_))
  refine w_for allV (fun a ds b' => ∃ s3 s4 s5 : Sd, ds = [.dat (.lst (iL v)), .dat (shD g s u), .dat (.dct (laidK g s u v)), s3, s4, s5] ∧ b' = fd__law_read_back.cost [.lst (iL v), shD g s u] + b) (ei_r1 (p := true) (n := (cellsN g s v : Int)) (ea_cons (ev_calK (es := [.int (v.length : Int)]) (fs := [shD g s u]) (ea_cons (EvD.eq (ev_cb (ea_cons (ev_var rfl) ea_nil) c_lenL) (by rw [iL_len])) ea_nil) (ea_cons (ev_var rfl) ea_nil) cc rfl rfl) ea_nil) (by omega)) ⟨_, _, _, rfl, by rfl⟩ ?_ ?_
  · rintro a ds' b' ha ⟨s3, s4, s5, rfl, rfl⟩
    have ha : a < cellsN g s v := by omega
    refine ⟨_, tg_name, ?_⟩
    have hfl : (fillV g s u (cellD g s v a)).length = many g s u := fillV_len ..
    have hfb := fillV_bdF (g := g) (s := s) (u := u) (data := cellD g s v a) (cellD_bd hv a)
    have cf : Cal (fd_is_filling T.t_NoShape) [.lst (iL (fillV g s u (cellD g s v a))), shD g s u] (.bl true) := by
      have q := cl_is_filling (C := T.t_NoShape) (t := .lst (iL (fillV g s u (cellD g s v a)))) h (plainF_iL (by omega))
      rw [fillB_ints hfl hfb, keeps_fill] at q
      exact q
    refine w_if (c := false) (EvT.eq (et_not (et_tru (d := .bl true) (ev_calK (p := false) (es := [.lst (iL (fillV g s u (cellD g s v a)))]) (fs := [shD g s u]) (ea_cons (EvD.eq (ev_lc1 (fun p => .int ((fillV g s u (cellD g s v a)).getD p 0)) (ei_r1 (p := true) (n := ((many g s u : Nat) : Int)) (ea_cons (ev_calK (es := []) (fs := [shD g s u]) ea_nil (ea_cons (ev_var rfl) ea_nil) cc2 rfl rfl) ea_nil) (by omega)) (by omega) fun p hp => ⟨_, tg_name, fun b0 => ?_⟩) ?_) ea_nil) (ea_cons (ev_var rfl) ea_nil) cf rfl rfl) rfl)) rfl) (fun h => nomatch h) (fun _ => w_next ?_)
    · have hp : p < many g s u := by omega
      have hat : L2.atI (iL (colV g s u v p)) (a : Int) = some (.int ((fillV g s u (cellD g s v a)).getD p 0)) := by
        have e := (atI_iLm (l := colV g s u v p) (z := (a : Int)) (by omega) (by rw [col_len]; omega)).1
        rw [e, Int.toNat_natCast]
        unfold colV
        rw [getD_mapR _ ha]
      exact ev_op (x := .lst (iL (colV g s u v p))) (y := .int (a : Int)) (ev_op (x := .dct (laidK g s u v)) (y := kD (.inl (p : Int))) (ev_var rfl) (ev_var rfl) (o_ixD (by
        have q := laidK_lk (g := g) (s := s) (u := u) (v := v) (p := (p : Int)) (by omega) (by rw [Int.toNat_natCast]; exact hp)
        rw [Int.toNat_natCast] at q
        exact q))) (ev_var rfl) (o_ixL hat)
    · rw [Int.toNat_natCast]
      congr 1
      unfold iL
      apply List.ext_getElem
      · simp [fillV_len]
      · intro p h1 h2
        have hp : p < (fillV g s u (cellD g s v a)).length := by simpa using h2
        rw [List.getElem_map, List.getElem_map, List.getElem_range, List.getD_eq_getElem?_getD, List.getElem?_eq_getElem hp]
        rfl
    · exact ⟨_, _, _, rfl, rfl⟩
  · rintro ds' b' ⟨s3, s4, s5, rfl, rfl⟩
    refine w_seq (ws_tre (lv := 1) (i := 4) ew_dnew fun d F e => ?_)
    subst e
    rw [show full 1 (.dct []) = Sh.Tree.node (.dct []) [] from rfl]
    have htk : ∀ i, i < need.length → need.take (i + 1) = need.take i ++ [need.getD i 0] := fun i hi => by
      rw [List.take_succ, List.getD_eq_getElem?_getD, List.getElem?_eq_getElem hi]; rfl
    refine w_seq (w_for allV (fun i ds b' => ∃ (F : List Addr) (s5 : Sd), ds = [.dat (.lst (iL v)), .dat (shD g s u), .dat (.dct (laidK g s u v)), s3, .tre (.node (.dct ((need.take i).map Sum.inl)) ((need.take i).map fun p => .leaf (.lst (iL (colV g s u v p.toNat))))) F, s5] ∧ b' = fd__law_read_back.cost [.lst (iL v), shD g s u] + b) (ei_list (xs := iL need) (ev_calK (es := [.int 0, .int (v.length : Int)]) (fs := [shD g s u]) (ea_cons ev_int (ea_cons (EvD.eq (ev_cb (ea_cons (ev_var rfl) ea_nil) c_lenL) (by rw [iL_len])) ea_nil)) (ea_cons (ev_var rfl) ea_nil) cn rfl rfl)) ⟨F, _, rfl, rfl⟩ ?_ ?_)
    · rintro i ds' b' hi ⟨F, s5, rfl, rfl⟩
      have hi : i < need.length := by rw [iL_len] at hi; exact hi
      rw [getD_iL hi]
      have hmem : need.getD i 0 ∈ need := by
        rw [List.getD_eq_getElem?_getD, List.getElem?_eq_getElem hi]; exact List.getElem_mem hi
      have hnew : need.getD i 0 ∉ need.take i := fun z => by
        obtain ⟨j, hj, e⟩ := List.getElem_of_mem z
        rw [List.length_take] at hj
        rw [List.getElem_take, List.getD_eq_getElem?_getD, List.getElem?_eq_getElem hi] at e
        exact List.pairwise_iff_getElem.mp hnd j i (by omega) hi (by omega) e
      have hlt : (need.take i).length = i := by rw [List.length_take]; omega
      have ht := htk i hi
      generalize need.getD i 0 = p at *
      obtain ⟨k, hk, ek⟩ := (hnm p).mp hmem
      have hsp := spot_bd (u := u) g0 s0 k
      rw [ek] at hsp
      refine ⟨_, tg_name, ?_⟩
      refine w_putT_new (i := 4) (key := .inl p) (d := .lst (iL (colV g s u v p.toNat))) rfl (ev_op (x := .dct (laidK g s u v)) (y := kD (.inl p)) (ev_var rfl) (ev_var rfl) (o_ixD (laidK_lk hsp.1 hsp.2.1))) ef_var (ev_var (p := true) rfl) (fun z => hnew (by
        obtain ⟨x, hx, ex⟩ := List.mem_map.mp z
        rw [← Sum.inl.inj ex]; exact hx)) (by rw [List.length_map, hlt]; omega) fun F' => ?_
      have e1 : (need.take i).map (Sum.inl : Int → Key) ++ [.inl p] = (need.take (i + 1)).map Sum.inl := by rw [ht, List.map_append]; rfl
      have e3 : ((need.take i).map fun p => (Sh.Tree.leaf (D.lst (iL (colV g s u v p.toNat))))) ++ [Sh.Tree.leaf (D.lst (iL (colV g s u v p.toNat)))] = (need.take (i + 1)).map fun p => (Sh.Tree.leaf (D.lst (iL (colV g s u v p.toNat)))) := by
        rw [ht, List.map_append]; rfl
      rw [e1, e3]
      exact ⟨F', _, rfl, rfl⟩
    · rintro ds' b' ⟨F, s5, rfl, rfl⟩
      rw [iL_len, List.take_length]
      refine w_freezeT (i := 4) rfl ?_
      have ed : Sh.Tree.d (.node (.dct (need.map Sum.inl)) (need.map fun p => .leaf (.lst (iL (colV g s u v p.toNat))))) = .dct (need.map fun p => (Sum.inl p, .lst (iL (colV g s u v p.toNat)))) := by
        rw [tre_dct]
        congr 1
        have eL : ∀ l : List Int, (l.map (Sum.inl : Int → Key)).zip (Sh.Tree.dL (l.map fun p => Sh.Tree.leaf (D.lst (iL (colV g s u v p.toNat))))) = l.map fun p => (Sum.inl p, .lst (iL (colV g s u v p.toNat))) := fun l => by
          induction l with
          | nil => rfl
          | cons x l ih =>
            rw [List.map_cons, List.map_cons, Sh.Tree.dL, List.zip_cons_cons, ih]
            rfl
        exact eL need
      rw [ed]
      have hin : ∀ k, k < v.length → spotI g s (k : Int) ∈ need := fun k hk => (hnm _).mpr ⟨k, hk, rfl⟩
      have ok1 : okU g s (need.map fun p => (Sum.inl p, .lst (iL (colV g s u v p.toNat)))) v.length := fun k hk d hd => by
        obtain ⟨_, e⟩ := lk_mem (f := fun p => D.lst (iL (colV g s u v p.toNat))) hd
        exact ⟨_, e, by rw [iL_len, col_len, Nat.div_lt_iff_lt_mul (by omega)]; omega⟩
      have la1 : lackV g s (need.map fun p => (Sum.inl p, .lst (iL (colV g s u v p.toNat)))) v.length = none := by
        unfold lackV
        rw [List.find?_eq_none]
        intro p hp
        obtain ⟨k, hk, e⟩ := take_spot g0 s0 hp
        rw [has_map (f := fun p => D.lst (iL (colV g s u v p.toNat))), decide_eq_true (by rw [← e]; exact hin k hk)]
        exact fun z => nomatch z
      have cu : Cal (fd_unlaid T.t_NoPlace T.t_NoShape) [.dct (need.map fun p => (Sum.inl p, .lst (iL (colV g s u v p.toNat)))), .int (v.length : Int), shD g s u] (.lst (iL v)) := by
        have q := cl_unlaid (C1 := T.t_NoPlace) (C2 := T.t_NoShape) h (by omega) ok1 la1
        rw [un_all (u := u) g0 s0 (v := v) (by omega) fun k hk => lk_map (f := fun p => D.lst (iL (colV g s u v p.toNat))) (hin k hk), take_getD (Nat.le_refl _), List.take_length] at q
        exact q
      have hlk : (laidK g s u v).length = many g s u := by simp [laidK]
      refine w_ret (b' := fd__law_read_back.cost [.lst (iL v), shD g s u] + b) (d := .bl true) (ev_andV (c := true) (e := true) (EvD.eq (ev_op (p := false) (x := .int ((many g s u : Nat) : Int)) (y := .int ((many g s u : Nat) : Int)) (EvD.eq (ev_cb (ea_cons (ev_var rfl) ea_nil) c_lenD) (by rw [hlk])) (ev_calK (es := []) (fs := [shD g s u]) ea_nil (ea_cons (ev_var rfl) ea_nil) cc2 rfl rfl) o_eqI) (by rw [decide_eq_true rfl])) fun _ => EvD.eq (ev_op (p := false) (x := .lst (iL v)) (y := .lst (iL v)) (ev_calK (es := [.dct (need.map fun p => (Sum.inl p, .lst (iL (colV g s u v p.toNat)))), .int (v.length : Int)]) (fs := [shD g s u]) (ea_cons (ev_var rfl) (ea_cons (EvD.eq (ev_cb (ea_cons (ev_var rfl) ea_nil) c_lenL) (by rw [iL_len])) ea_nil)) (ea_cons (ev_var rfl) ea_nil) cu rfl rfl) (ev_var rfl) (o_eq (shp_lst _) (shp_lst _))) (by rw [eq_iL])) ⟨by walk_at "b", rfl⟩

/-! one number of a row changed -/
theorem sub97 (a b : Int) : (a % 97 - b % 97) % 97 = (a - b) % 97 := by
  rw [Int.sub_emod, Int.emod_emod_of_dvd _ (Int.dvd_refl 97), Int.emod_emod_of_dvd _ (Int.dvd_refl 97), ← Int.sub_emod]
theorem sm_at {s i j : Nat} {δ : Int} (c : Nat → Int) (s0 : 1 ≤ s) : sm s (fun jj => c jj * (if i * s + jj = j then δ else 0)) = if i = j / s then c (j % s) * δ else 0 := by
  by_cases e : i = j / s
  · subst e
    rw [if_pos rfl, sm_one (k := j % s) (Nat.mod_lt _ (by omega)) fun jj _ h => ?_]
    · rw [if_pos (Nat.div_add_mod' j s)]
    · rw [if_neg, Int.mul_zero]
      intro z
      have := Nat.div_add_mod' j s
      omega
  · rw [if_neg e]
    refine sm_zero fun jj hjj => ?_
    rw [if_neg, Int.mul_zero]
    intro z
    apply e
    rw [← z]
    exact (dv i s jj hjj).symm
theorem fill_diff {g s : Nat} {dt dt' : Nat → Int} {j : Nat} {δ : Int} (s0 : 1 ≤ s) (hj : j < g * s) (h : ∀ i, i < g * s → dt' i = dt i + (if i = j then δ else 0)) (p : Nat) :
    (fillF g s dt' p - fillF g s dt p) % 97 = (if p < g * (s + 1) then (if p % (s + 1) = s then (if p / (s + 1) = j / s then δ else 0) else (if p / (s + 1) * s + p % (s + 1) = j then δ else 0)) else sgn (j / s) (j % s) ^ (p - g * (s + 1) + 1) * δ) % 97 := by
  have hjs : j / s < g := by rw [Nat.div_lt_iff_lt_mul (by omega)]; exact hj
  unfold fillF
  by_cases h1 : p < g * (s + 1)
  · rw [if_pos h1, if_pos h1, if_pos h1]
    have hg : p / (s + 1) < g := by rw [Nat.div_lt_iff_lt_mul (by omega)]; exact h1
    have hm := Nat.mod_lt p (show 0 < s + 1 by omega)
    by_cases h2 : p % (s + 1) = s
    · rw [if_pos h2, if_pos h2, if_pos h2, sub97]
      have e : sm s (fun jj => dt' (p / (s + 1) * s + jj)) = sm s (fun jj => dt (p / (s + 1) * s + jj)) + sm s (fun jj => 1 * (if p / (s + 1) * s + jj = j then δ else 0)) := by
        rw [← sm_plus]
        exact sm_congr fun jj hjj => by rw [h _ (blk_lt hg hjj), Int.one_mul]
      rw [e, sm_at (fun _ => 1) s0]
      congr 1
      split <;> omega
    · rw [if_neg h2, if_neg h2, if_neg h2, h _ (blk_lt hg (by omega))]
      congr 1
      split <;> omega
  · rw [if_neg h1, if_neg h1, if_neg h1, sub97]
    generalize p - g * (s + 1) + 1 = n
    have e : sm g (fun i => sm s (fun jj => sgn i jj ^ n * dt' (i * s + jj))) = sm g (fun i => sm s (fun jj => sgn i jj ^ n * dt (i * s + jj))) + sm g (fun i => sm s (fun jj => sgn i jj ^ n * (if i * s + jj = j then δ else 0))) := by
      rw [← sm_plus]
      refine sm_congr fun i hi => ?_
      rw [← sm_plus]
      exact sm_congr fun jj hjj => by rw [h _ (blk_lt hi hjj), Int.mul_add]
    have e2 : sm g (fun i => sm s (fun jj => sgn i jj ^ n * (if i * s + jj = j then δ else 0))) = sgn (j / s) (j % s) ^ n * δ := by
      rw [sm_one (k := j / s) hjs fun i hi hne => ?_]
      · rw [sm_at (fun jj => sgn (j / s) jj ^ n) s0, if_pos rfl]
      · rw [sm_at (fun jj => sgn i jj ^ n) s0, if_neg hne]
    rw [e, e2]
    congr 1
    omega
/-- by which step each piece is changed -/
def stepV (g s o : Nat) (st : Int) (p : Nat) : Int := if p < g * (s + 1) then (if p = o ∨ (p % (s + 1) = s ∧ p / (s + 1) = o / (s + 1)) then st else 0) else st * pw (markV s (o : Int)) (p - g * (s + 1) + 1) % 97
theorem mark_sgn {s a b : Nat} (hb : b < s) : markV s ((a * (s + 1) + b : Nat) : Int) = sgn a b := by
  unfold markV sgn
  have e1 : (((a * (s + 1) + b : Nat) : Int) / ((s : Int) + 1)).toNat = a := by
    have q : ((a * (s + 1) + b : Nat) : Int) / ((s : Int) + 1) = (((a * (s + 1) + b) / (s + 1) : Nat) : Int) := by push_cast; rfl
    rw [q, Int.toNat_natCast, dv a (s + 1) b (by omega)]
  have e2 : ((a * (s + 1) + b : Nat) : Int) % ((s : Int) + 1) = (b : Int) := by
    have q : ((a * (s + 1) + b : Nat) : Int) % ((s : Int) + 1) = (((a * (s + 1) + b) % (s + 1) : Nat) : Int) := by push_cast; rfl
    rw [q, md a (s + 1) b (by omega)]
  rw [e1, e2]
theorem row_set {v : List Int} {k : Nat} {x : Int} (h : rowOk v) (hx : 0 ≤ x ∧ x < 97) : rowOk (v.set k x) := ⟨by rw [List.length_set]; exact h.1, fun y hy => by
  rcases List.mem_or_eq_of_mem_set hy with hy | rfl
  · exact h.2 y hy
  · exact hx⟩
theorem cells_set (g s : Nat) (v : List Int) (k : Nat) (x : Int) : cellsN g s (v.set k x) = cellsN g s v := by unfold cellsN; rw [List.length_set]
theorem change_at {g s u : Nat} (g0 : 1 ≤ g) (s0 : 1 ≤ s) {v : List Int} (hv : rowOk v) {k : Nat} (hk : k < v.length) {st : Int} (t0 : 1 ≤ st) (t1 : st < 97) {o : Nat} (ho : spotI g s (k : Int) = (o : Int)) {p c : Nat} (hp : p < many g s u) (hc : c < cellsN g s v) :
    ((colV g s u (v.set k ((v.getD k 0 + st) % 97)) p).getD c 0 - (colV g s u v p).getD c 0) % 97 = stepV g s o st p * (if (decide ((c : Int) = ((k / (g * s) : Nat) : Int))) = true then 1 else 0) := by
  have w0 : 1 ≤ g * s := Nat.mul_le_mul g0 s0
  have hx := row_getD hv k
  generalize hy : (v.getD k 0 + st) % 97 = y
  have hj := Nat.mod_lt k (show 0 < g * s by omega)
  have at_ : ∀ w : List Int, cellsN g s w = cellsN g s v → (colV g s u w p).getD c 0 = fillF g s (fun i => (cellD g s w c).getD i 0) p := fun w hw => by
    unfold colV
    rw [List.getD_eq_getElem?_getD, List.getElem?_map, List.getElem?_eq_getElem (by rw [List.length_range, hw]; exact hc), List.getElem_range, Option.map_some, Option.getD_some]
    exact getD_mapR _ hp
  rw [at_ _ (cells_set ..), at_ v rfl]
  have hcd : ∀ (w : List Int) (i : Nat), i < g * s → (cellD g s w c).getD i 0 = w.getD (c * (g * s) + i) 0 := fun w i hi => by
    rw [cellD_eq]
    exact getD_mapR _ hi
  obtain ⟨hd, e⟩ := spot_eq g0 s0 k
  rw [ho] at e
  have e : o = k % (g * s) / s * (s + 1) + k % (g * s) % s := by omega
  have hjm := Nat.mod_lt (k % (g * s)) (show 0 < s by omega)
  have o1 : o / (s + 1) = k % (g * s) / s := by rw [e, dv _ (s + 1) _ (by omega)]
  have o2 : o % (s + 1) = k % (g * s) % s := by rw [e, md _ (s + 1) _ (by omega)]
  have okk := Nat.div_add_mod' k (g * s)
  by_cases hca : c = k / (g * s)
  · rw [decide_eq_true (by omega), if_pos rfl, Int.mul_one, fill_diff (j := k % (g * s)) (δ := y - v.getD k 0) s0 hj (fun i hi => ?_) p]
    · have hδ : (y - v.getD k 0) % 97 = st := by rw [← hy]; omega
      unfold stepV
      by_cases h1 : p < g * (s + 1)
      · rw [if_pos h1, if_pos h1]
        have hpd := Nat.div_add_mod' p (s + 1)
        by_cases h2 : p % (s + 1) = s
        · rw [if_pos h2]
          by_cases h3 : p / (s + 1) = k % (g * s) / s
          · rw [if_pos h3, if_pos (show p = o ∨ p % (s + 1) = s ∧ p / (s + 1) = o / (s + 1) from .inr ⟨h2, by rw [o1]; exact h3⟩), hδ]
          · have n2 : ¬ (p = o ∨ p % (s + 1) = s ∧ p / (s + 1) = o / (s + 1)) := fun z => z.elim (fun z => by rw [z] at h2; omega) fun z => h3 (by rw [z.2, o1])
            rw [if_neg h3, if_neg n2]
            rfl
        · rw [if_neg h2]
          by_cases h3 : p = o
          · rw [if_pos (show p / (s + 1) * s + p % (s + 1) = k % (g * s) by rw [h3, o1, o2]; exact Nat.div_add_mod' _ _), hδ, if_pos (show p = o ∨ _ from .inl h3)]
          · have n1 : ¬ (p / (s + 1) * s + p % (s + 1) = k % (g * s)) := fun z => by
              apply h3
              have hlt := Nat.mod_lt p (show 0 < s + 1 by omega)
              have a1 : p / (s + 1) = k % (g * s) / s := by rw [← z, dv _ s _ (by omega)]
              have a2 : p % (s + 1) = k % (g * s) % s := by rw [← z, md _ s _ (by omega)]
              rw [e, ← a1, ← a2]
              exact hpd.symm
            have n2 : ¬ (p = o ∨ p % (s + 1) = s ∧ p / (s + 1) = o / (s + 1)) := fun z => z.elim h3 fun z => h2 z.1
            rw [if_neg n1, if_neg n2]
            rfl
      · rw [if_neg h1, if_neg h1]
        have em : markV s (o : Int) = sgn (k % (g * s) / s) (k % (g * s) % s) := by rw [e]; exact mark_sgn hjm
        rw [em]
        unfold pw
        rw [Int.mul_comm, mm97, hδ, Int.mul_emod st (_ % 97), Int.emod_emod_of_dvd _ (Int.dvd_refl 97), ← Int.mul_emod]
    · rw [hcd _ i hi, hcd _ i hi, getD_set _ _ _ _ hk]
      by_cases hi2 : i = k % (g * s)
      · rw [if_pos hi2, if_pos (by rw [hca, hi2]; exact okk), show c * (g * s) + i = k by rw [hca, hi2]; exact okk]
        omega
      · rw [if_neg hi2, if_neg (by intro z; rw [hca] at z; omega)]
        omega
  · rw [decide_eq_false (by omega), if_neg (fun z => nomatch z), Int.mul_zero]
    have eq : fillF g s (fun i => (cellD g s (v.set k y) c).getD i 0) p = fillF g s (fun i => (cellD g s v c).getD i 0) p := by
      have ec : cellD g s (v.set k y) c = cellD g s v c := by
        rw [cellD_eq, cellD_eq]
        refine List.map_congr_left fun i hi => ?_
        have hi := List.mem_range.mp hi
        rw [getD_set _ _ _ _ hk, if_neg]
        intro z
        apply hca
        rw [← z]
        exact (dv c (g * s) i hi).symm
      rw [ec]
    rw [eq, Int.sub_self]
    rfl
theorem stepV_bd {g s o : Nat} {st : Int} (t0 : 0 ≤ st) (t1 : st < 97) (p : Nat) : 0 ≤ stepV g s o st p ∧ stepV g s o st p < 97 := by
  unfold stepV
  split
  · split <;> omega
  · exact ⟨Int.emod_nonneg _ (by decide), Int.emod_lt_of_pos _ (by decide)⟩
def stepsV (g s u o : Nat) (st : Int) : List Int := (List.range (many g s u)).map (stepV g s o st)
def fd__law_steps : Fd := { n := 3, dom := fun ds => ∃ (g s u o : Nat) (st : Int), ds = [shD g s u, .int (o : Int), .int st] ∧ ShOk g s u ∧ o / (s + 1) < g ∧ o % (s + 1) ≠ s ∧ 0 ≤ st ∧ st < 97, res := fun ds d => ∃ (g s u o : Nat) (st : Int), ds = [shD g s u, .int (o : Int), .int st] ∧ d = .lst (iL (stepsV g s u o st)) }
theorem cl__law_steps {g s u o : Nat} {st : Int} (h : ShOk g s u) (h1 : o / (s + 1) < g) (h2 : o % (s + 1) ≠ s) (t0 : 0 ≤ st) (t1 : st < 97) : Cal fd__law_steps [shD g s u, .int (o : Int), .int st] (.lst (iL (stepsV g s u o st))) := ⟨rfl, ⟨g, s, u, o, st, rfl, h, h1, h2, t0, t1⟩, rfl, fun d ⟨g', s', u', o', st', e, q⟩ => by
  injection e with e1 e
  injection e with e2 e
  injection e with e3 e
  injection e2 with e2
  injection e3 with e3
  obtain ⟨rfl, rfl, rfl⟩ := shD_inj e1
  have e2 : o = o' := by omega
  rw [q, e2, e3], fun _ _ q => q⟩
theorem eq_kover (n q : Int) : D.eq (.tup [.str "over", .int n]) (.tup [.str "local", .int q]) = false := by
  have h : D.eq (.str "over") (.str "local") = false := by decide +kernel
  simp only [D.eq, D.py, D.pyA, PyData.eqv, PyData.eqvAll] at h ⊢
  rw [h]; rfl
theorem eq_kloc (n q : Int) : D.eq (.tup [.str "local", .int n]) (.tup [.str "local", .int q]) = decide (n = q) := by
  have h : D.eq (.str "local") (.str "local") = true := by decide +kernel
  have h2 := eq_int n q
  simp only [D.eq, D.py, D.pyA, PyData.eqv, PyData.eqvAll] at h h2 ⊢
  rw [h, h2, Bool.true_and, Bool.and_true]
theorem eq_kdat (n m q : Int) : D.eq (.tup [.str "data", .int n, .int m]) (.tup [.str "local", .int q]) = false := by
  simp only [D.eq, D.py, D.pyA, PyData.eqv, PyData.eqvAll, Bool.and_false]
theorem at0T (x : D) (r : List D) : L2.atI (x :: r) 0 = some x := atI_nn (Int.le_refl 0) rfl
theorem eq_oo : D.eq (.str "over") (.str "over") = true := by decide +kernel
theorem eq_lo : D.eq (.str "local") (.str "over") = false := by decide +kernel
theorem eq_do : D.eq (.str "data") (.str "over") = false := by decide +kernel
theorem shp_kl (q : Int) : D.shp 64 (.tup [.str "local", .int q]) = true := by
  have h : D.shp 63 (.str "local") = true := by decide +kernel
  simp only [D.shp, D.shpA] at h ⊢
  rw [h]; rfl
theorem shp_ko (q : Int) : D.shp 64 (.tup [.str "over", .int q]) = true := by
  have h : D.shp 63 (.str "over") = true := by decide +kernel
  simp only [D.shp, D.shpA] at h ⊢
  rw [h]; rfl
theorem shp_kd (p q : Int) : D.shp 64 (.tup [.str "data", .int p, .int q]) = true := by
  have h : D.shp 63 (.str "data") = true := by decide +kernel
  simp only [D.shp, D.shpA] at h ⊢
  rw [h]; rfl
theorem ok__law_steps (T : Txt K mg) : FnOk P w K mg base (L2.CX P w) 9 T.f__law_steps T.fd__law_steps ["mould", "own", "step"] (SpD K fd__law_steps) := by
  refine fn_data (dvs := []) (kws := []) (N := N__law_steps) (.inr T.F__law_steps) sc__law_steps rfl (fun cdv A outer s H E hr tk => ?_)
  refine ⟨_, (pss_cons (ps_set (i := 3) sc__law_steps.nd rfl (Or.inl rfl) (pe_lst pa_nil))
      (pss_cons (ps_for (passes_of rfl) rfl (pi_range1 rfl T.b_range (pa_cons (pe_cl0 (m := 1) (ok_count T) (hr.mono (by decide)) rfl T.g_count T.k_count T.b_count_0_shape (passD tk) (pk_cons (pv 0) pk_nil)) pa_nil)) (pg_name (i := 4) sc__law_steps.nd rfl (Or.inl rfl)) (pss_cons (ps_set (i := 5) sc__law_steps.nd rfl (Or.inl rfl) (pe_cl (m := 1) (ok_kind_of T) (hr.mono (by decide)) rfl T.g_kind_of T.k_kind_of T.b_kind_of_1_shape (passD tk) (pa_cons (pv 4) pa_nil) (pk_cons (pv 0) pk_nil)))
      (pss_cons (ps_set (i := 6) sc__law_steps.nd rfl (Or.inl rfl) pe_int)
      (pss_cons (ps_if (PW.pt (pw_or (pt_cmpR (g_eq (K := K) rfl hr) (pv 4) (pv 1) (nomark _)) (pw_or1 (pt_cmpR (g_eq (K := K) rfl hr) (pv 5) (pe_tup (pa_cons pe_str (pa_cons (pe_ix (g_ix (K := K) rfl hr) (pe_cl (m := 1) (ok_kind_of T) (hr.mono (by decide)) rfl T.g_kind_of T.k_kind_of T.b_kind_of_1_shape (passD tk) (pa_cons (pv 1) pa_nil) (pk_cons (pv 0) pk_nil)) pe_int (fun _ _ => rfl)) pa_nil))) (nomark _))))) (pss_one (ps_set (i := 6) sc__law_steps.nd rfl (Or.inl rfl) (pv 2))) pss_nil)
      (pss_cons (ps_if (pt_cmpR (g_eq (K := K) rfl hr) (pe_ix (g_ix (K := K) rfl hr) (pv 5) pe_int (fun _ _ => rfl)) pe_str (nomark _)) (pss_one (ps_set (i := 6) sc__law_steps.nd rfl (Or.inl rfl) (pe_cl (m := 0) (ok_times T) (hr.mono (by decide)) rfl T.g_times T.k_times T.b_times (passD tk) (pa_cons (pv 2) (pa_cons (pe_cl (m := 0) (ok_power T) (hr.mono (by decide)) rfl T.g_power T.k_power T.b_power (passD tk) (pa_cons (pe_cl (m := 1) (ok_mark T) (hr.mono (by decide)) rfl T.g_mark T.k_mark T.b_mark_1_shape (passD tk) (pa_cons (pv 1) pa_nil) (pk_cons (pv 0) pk_nil)) (pa_cons (pe_ix (g_ix (K := K) rfl hr) (pv 5) pe_int (fun _ _ => rfl)) pa_nil)) pk_nil) pa_nil)) pk_nil))) pss_nil)
      (pss_one (ps_expr (g_bm (K := K) rfl PySem.F.plainAttrs_list PySem.F.slot_list_append PySem.F.type_list_append g_append (pv 3) (pa_cons (pv 6) pa_nil)))))))))
      (pss_one (ps_ret (pv 3))))), fun ds N' b hl hd acc => ?_⟩
  obtain ⟨g, s, u, o, st, rfl, h, ho1, ho2, t0, t1⟩ := hd
  obtain ⟨⟨g0, g1⟩, ⟨s0, s1⟩, u1⟩ := h.nat
  have hm := h.many
  have hmm : many g s u = g * (s + 1) + u := rfl
  have hgs1 : g * (s + 1) ≤ 20 := Nat.mul_le_mul g1 (Nat.succ_le_succ s1)
  have gs1 : (g : Int) * ((s : Int) + 1) = ((g * (s + 1) : Nat) : Int) := by push_cast; rfl
  have si : (s : Int) + 1 = ((s + 1 : Nat) : Int) := by push_cast; rfl
  have hoN : o < g * (s + 1) := by rw [Nat.div_lt_iff_lt_mul (by omega)] at ho1; exact ho1
  have od : (o : Int) / ((s : Int) + 1) = ((o / (s + 1) : Nat) : Int) := by push_cast; rfl
  have om : (o : Int) % ((s : Int) + 1) = ((o % (s + 1) : Nat) : Int) := by push_cast; rfl
  have cc2 : Cal (fd_count T.t_NoShape) [shD g s u] (.int (many g s u : Nat)) := by
    have q := cl_count (C := T.t_NoShape) h
    have hmi : ((g : Int) * ((s : Int) + 1) + u) = ((many g s u : Nat) : Int) := by unfold many; push_cast; rfl
    rw [hmi] at q
    exact q
  have ck : ∀ p : Nat, p < many g s u → Cal (fd_kind_of T.t_NoShape T.t_NoPlace) [.int (p : Int), shD g s u] (kindD g s (p : Int)) := fun p hp => cl_kind_of h (by omega) (by rw [gs1]; omega)
  have ko : kindD g s (o : Int) = .tup [.str "data", .int ((o / (s + 1) : Nat) : Int), .int ((o % (s + 1) : Nat) : Int)] := by
    unfold kindD
    rw [if_neg (by rw [od]; omega), if_neg (by rw [om]; omega), od, om]
  have cko := ck o (by omega)
  rw [ko] at cko
  have cmk : Cal (fd_mark T.t_NoShape T.t_NoPlace) [.int (o : Int), shD g s u] (.int (markV s (o : Int))) := cl_mark h (by omega) (by rw [od]; omega) (by rw [om]; omega)
  have mkb : 0 ≤ markV s (o : Int) ∧ markV s (o : Int) < 97 := by
    have e := mark_sgn (s := s) (a := o / (s + 1)) (b := o % (s + 1)) (by have := Nat.mod_lt o (show 0 < s + 1 by omega); omega)
    rw [Nat.div_add_mod' o (s + 1)] at e
    rw [e]
    have hlt := Nat.mod_lt o (show 0 < s + 1 by omega)
    unfold sgn
    have ha := Nat.lt_of_lt_of_le ho1 g1
    generalize o / (s + 1) = a at ha ⊢
    have hb : o % (s + 1) ≤ 4 := by omega
    generalize o % (s + 1) = c at hb ⊢
    have : a = 0 ∨ a = 1 ∨ a = 2 ∨ a = 3 := by omega
    rcases this with z | z | z | z <;> rw [z] <;> simp <;> omega
  refine w_seq (w_own (i := 3) (es := []) ea_nil (w_seq ?_))
  refine w_for allV (fun p ds b' => ∃ s4 s5 s6 : Sd, ds = [.dat (shD g s u), .dat (.int (o : Int)), .dat (.int st), .own (iL ((List.range p).map (stepV g s o st))), s4, s5, s6] ∧ b' = fd__law_steps.cost [shD g s u, .int (o : Int), .int st] + b) (ei_r1 (p := true) (n := ((many g s u : Nat) : Int)) (ea_cons (ev_calK (es := []) (fs := [shD g s u]) ea_nil (ea_cons (ev_var rfl) ea_nil) cc2 rfl rfl) ea_nil) (by omega)) ⟨_, _, _, rfl, by rfl⟩ ?_ ?_
  · rintro p ds' b' hp ⟨s4, s5, s6, rfl, rfl⟩
    have hp : p < many g s u := by omega
    refine ⟨_, tg_name, ?_⟩
    refine w_seq (w_asg (d := kindD g s (p : Int)) (ev_calK (es := [.int (p : Int)]) (fs := [shD g s u]) (by walk_at "ev") (by walk_at "ev") (ck p hp) rfl rfl) (w_seq ?_))
    refine w_asg (d := .int 0) (by walk_at "ev") (w_seq ?_)
    have pd : (p : Int) / ((s : Int) + 1) = ((p / (s + 1) : Nat) : Int) := by push_cast; rfl
    have pm : (p : Int) % ((s : Int) + 1) = ((p % (s + 1) : Nat) : Int) := by push_cast; rfl
    have hkl : ∀ {ds : List Sd} {G : Gx} {b0 : Nat} (hK : G.K = K), ds[1]? = some (.dat (.int (o : Int))) → ds[0]? = some (.dat (shD g s u)) → True := fun _ _ _ => trivial
    have fin : ∀ (by_ : Int), by_ = stepV g s o st p → (∃ s4' s5' s6' : Sd, ([.dat (shD g s u), .dat (.int (o : Int)), .dat (.int st), .own (iL ((List.range p).map (stepV g s o st)) ++ [.int by_]), .dat (.int (p : Int)), .dat (kindD g s (p : Int)), .dat (.int by_)] : List Sd) = [.dat (shD g s u), .dat (.int (o : Int)), .dat (.int st), .own (iL ((List.range (p + 1)).map (stepV g s o st))), s4', s5', s6']) := fun by_ e => by
      have er : iL ((List.range p).map (stepV g s o st)) ++ [.int by_] = iL ((List.range (p + 1)).map (stepV g s o st)) := by
        rw [List.range_succ, List.map_append, iL_app, e]; rfl
      rw [er]
      exact ⟨_, _, _, rfl⟩
    have hlen : (iL ((List.range p).map (stepV g s o st))).length < 100000 := by rw [iL_len, List.length_map, List.length_range]; omega
    by_cases h1 : g ≤ p / (s + 1)
    · have kp : kindD g s (p : Int) = .tup [.str "over", .int ((p - g * (s + 1) + 1 : Nat) : Int)] := by
        have h1' : g * (s + 1) ≤ p := by rw [Nat.le_div_iff_mul_le (by omega)] at h1; exact h1
        unfold kindD
        rw [if_pos (by rw [pd]; omega), gs1]
        have e : (p : Int) - ((g * (s + 1) : Nat) : Int) + 1 = ((p - g * (s + 1) + 1 : Nat) : Int) := by
          generalize g * (s + 1) = n at h1' ⊢
          omega
        rw [e]
      have h1' : g * (s + 1) ≤ p := by rw [Nat.le_div_iff_mul_le (by omega)] at h1; exact h1
      rw [kp]
      rw [kp] at fin
      refine w_if (c := false) (EvT.eq (et_or (c := false) (e := false) (EvT.eq (et_tst (ev_op (x := .int (p : Int)) (y := .int (o : Int)) (ev_var rfl) (ev_var rfl) o_eqI)) (decide_eq_false (show ¬ (p : Int) = (o : Int) by omega))) fun _ => et_tst (EvD.eq (ev_op (x := .tup [.str "over", .int ((p - g * (s + 1) + 1 : Nat) : Int)]) (y := .tup [.str "local", .int ((o / (s + 1) : Nat) : Int)]) (ev_var rfl) (ev_tup (ea_cons ev_str (ea_cons (ev_op (x := .tup [.str "data", .int ((o / (s + 1) : Nat) : Int), .int ((o % (s + 1) : Nat) : Int)]) (y := .int 1) (ev_calK (es := [.int (o : Int)]) (fs := [shD g s u]) (ea_cons (ev_var rfl) ea_nil) (ea_cons (ev_var rfl) ea_nil) cko rfl rfl) ev_int (o_ixT rfl)) ea_nil)) (by show 2 ≤ 100000; decide)) (o_eq (shp_ko _) (shp_kl _))) (by rw [eq_kover]))) rfl) (fun h => nomatch h) (fun _ => w_next ?_)
      have cpw : Cal fd_power [.int (markV s (o : Int)), .int ((p - g * (s + 1) + 1 : Nat) : Int)] (.int (pw (markV s (o : Int)) (p - g * (s + 1) + 1))) := by
        have q := cl_power (i := markV s (o : Int)) (n := ((p - g * (s + 1) + 1 : Nat) : Int)) (by omega)
        rw [Int.toNat_natCast] at q
        exact q
      have pwb : 0 ≤ pw (markV s (o : Int)) (p - g * (s + 1) + 1) ∧ pw (markV s (o : Int)) (p - g * (s + 1) + 1) < 97 := ⟨Int.emod_nonneg _ (by decide), Int.emod_lt_of_pos _ (by decide)⟩
      have hsv : st * pw (markV s (o : Int)) (p - g * (s + 1) + 1) % 97 = stepV g s o st p := by unfold stepV; rw [if_neg (by omega)]
      refine w_seq (w_if (c := true) (EvT.eq (et_tst (ev_op (x := .str "over") (y := .str "over") (ev_op (x := .tup [.str "over", .int ((p - g * (s + 1) + 1 : Nat) : Int)]) (y := .int 0) (ev_var rfl) ev_int (o_ixT rfl)) ev_str (o_eq shp_over shp_over))) eq_oo) (fun _ => ?_) (fun h => nomatch h))
      refine w_asg (d := .int (st * pw (markV s (o : Int)) (p - g * (s + 1) + 1) % 97)) (ev_cal (es := [.int st, .int (pw (markV s (o : Int)) (p - g * (s + 1) + 1))]) (ea_cons (ev_var rfl) (ea_cons (ev_cal (es := [.int (markV s (o : Int)), .int ((p - g * (s + 1) + 1 : Nat) : Int)]) (ea_cons (ev_calK (es := [.int (o : Int)]) (fs := [shD g s u]) (ea_cons (ev_var rfl) ea_nil) (ea_cons (ev_var rfl) ea_nil) cmk rfl rfl) (ea_cons (ev_op (x := .tup [.str "over", .int ((p - g * (s + 1) + 1 : Nat) : Int)]) (y := .int 1) (ev_var rfl) ev_int (o_ixT rfl)) ea_nil)) cpw rfl) ea_nil)) (cl_times (cmul_of 10 10 (by omega) (by omega))) rfl) ?_
      refine w_app (i := 3) rfl (ev_var rfl) hlen ?_
      obtain ⟨a, c, d, e⟩ := fin _ hsv
      exact ⟨a, c, d, e, rfl⟩
    · have hpN : p < g * (s + 1) := by rw [Nat.le_div_iff_mul_le (by omega)] at h1; omega
      have hk : ∃ (w : Str) (rest : List D) (cc : Bool), kindD g s (p : Int) = .tup (.str w :: rest) ∧ D.shp 64 (.tup (.str w :: rest)) = true ∧ D.eq (.tup (.str w :: rest)) (.tup [.str "local", .int ((o / (s + 1) : Nat) : Int)]) = cc ∧ D.eq (.str w) (.str "over") = false ∧ D.shp 64 (.str w) = true ∧ stepV g s o st p = if (decide ((p : Int) = (o : Int)) || cc) = true then st else 0 := by
        by_cases h2 : p % (s + 1) = s
        · refine ⟨"local", [.int ((p / (s + 1) : Nat) : Int)], decide (((p / (s + 1) : Nat) : Int) = ((o / (s + 1) : Nat) : Int)), ?_, shp_kl _, eq_kloc _ _, eq_lo, shp_local, ?_⟩
          · unfold kindD
            rw [if_neg (by rw [pd]; omega), if_pos (by rw [pm]; omega), pd]
          · unfold stepV
            rw [if_pos hpN]
            by_cases h3 : p / (s + 1) = o / (s + 1)
            · rw [if_pos (.inr ⟨h2, h3⟩), decide_eq_true (show ((p / (s + 1) : Nat) : Int) = ((o / (s + 1) : Nat) : Int) by rw [h3]), Bool.or_true, if_pos rfl]
            · have n1 : ¬ p = o := fun z => h3 (by rw [z])
              rw [if_neg (fun z => z.elim n1 fun z => h3 z.2), decide_eq_false (show ¬ ((p / (s + 1) : Nat) : Int) = ((o / (s + 1) : Nat) : Int) from fun z => h3 (Int.ofNat.inj z)), decide_eq_false (show ¬ (p : Int) = (o : Int) from fun z => n1 (Int.ofNat.inj z))]
              rfl
        · refine ⟨"data", [.int ((p / (s + 1) : Nat) : Int), .int ((p % (s + 1) : Nat) : Int)], false, ?_, shp_kd _ _, eq_kdat _ _ _, eq_do, shp_data, ?_⟩
          · unfold kindD
            rw [if_neg (by rw [pd]; omega), if_neg (by rw [pm]; omega), pd, pm]
          · unfold stepV
            rw [if_pos hpN, Bool.or_false]
            by_cases h3 : p = o
            · rw [if_pos (.inl h3), decide_eq_true (show (p : Int) = (o : Int) by rw [h3]), if_pos rfl]
            · rw [if_neg (fun z => z.elim h3 fun z => h2 z.1), decide_eq_false (show ¬ (p : Int) = (o : Int) from fun z => h3 (Int.ofNat.inj z))]
              rfl
      obtain ⟨w, rest, cc, kp, k1, k2, k3, k4, k5⟩ := hk
      rw [kp]
      rw [kp] at fin
      refine w_mid (fun ds b' => ds = [.dat (shD g s u), .dat (.int (o : Int)), .dat (.int st), .own (iL ((List.range p).map (stepV g s o st))), .dat (.int (p : Int)), .dat (.tup (.str w :: rest)), .dat (.int (stepV g s o st p))] ∧ b' = fd__law_steps.cost [shD g s u, .int (o : Int), .int st] + b) ?_ ?_
      · refine w_if (c := decide ((p : Int) = (o : Int)) || cc) (et_or (c := decide ((p : Int) = (o : Int))) (e := cc) (et_tst (ev_op (x := .int (p : Int)) (y := .int (o : Int)) (ev_var rfl) (ev_var rfl) o_eqI)) fun _ => et_tst (EvD.eq (ev_op (x := .tup (.str w :: rest)) (y := .tup [.str "local", .int ((o / (s + 1) : Nat) : Int)]) (ev_var rfl) (ev_tup (ea_cons ev_str (ea_cons (ev_op (x := .tup [.str "data", .int ((o / (s + 1) : Nat) : Int), .int ((o % (s + 1) : Nat) : Int)]) (y := .int 1) (ev_calK (es := [.int (o : Int)]) (fs := [shD g s u]) (ea_cons (ev_var rfl) ea_nil) (ea_cons (ev_var rfl) ea_nil) cko rfl rfl) ev_int (o_ixT rfl)) ea_nil)) (by show 2 ≤ 100000; decide)) (o_eq k1 (shp_kl _))) (by rw [k2]))) (fun hz => ?_) (fun hz => w_next ?_)
        · rw [hz, if_pos rfl] at k5
          rw [k5]
          exact w_asg (d := .int st) (ev_var rfl) ⟨rfl, rfl⟩
        · rw [hz, if_neg (fun z => nomatch z)] at k5
          rw [k5]
          exact ⟨rfl, rfl⟩
      · rintro ds2 b2 ⟨rfl, rfl⟩
        refine w_seq (w_if (c := false) (EvT.eq (et_tst (ev_op (x := .str w) (y := .str "over") (ev_op (x := .tup (.str w :: rest)) (y := .int 0) (ev_var rfl) ev_int (o_ixT (at0T _ _))) ev_str (o_eq k4 shp_over))) k3) (fun h => nomatch h) (fun _ => w_next ?_))
        refine w_app (i := 3) rfl (ev_var rfl) hlen ?_
        obtain ⟨a, c, d, e⟩ := fin _ rfl
        exact ⟨a, c, d, e, rfl⟩
  · rintro ds' b' ⟨s4, s5, s6, rfl, rfl⟩
    refine w_ret (d := .lst (iL (stepsV g s u o st))) (EvD.eq (ev_own rfl) (by rw [Int.toNat_natCast]; rfl)) ⟨by walk_at "b", g, s, u, o, st, rfl, rfl⟩

def fd__law_changes : Fd := { n := 5, dom := fun ds => ∃ (g s u : Nat) (v v' : List Int) (a : Int) (S : List Int), ds = [shD g s u, .dct (laidK g s u v), .dct (laidK g s u v'), .int a, .lst (iL S)] ∧ many g s u ≤ 100 ∧ cellsN g s v ≤ 60 ∧ S.length = many g s u ∧ (∀ x ∈ S, 0 ≤ x ∧ x < 97) ∧ cellsN g s v' = cellsN g s v ∧ ∀ p c, p < many g s u → c < cellsN g s v → ((colV g s u v' p).getD c 0 - (colV g s u v p).getD c 0) % 97 = S.getD p 0 * (if (decide ((c : Int) = a)) = true then 1 else 0), res := fun _ d => d = .bl true }
theorem ok__law_changes (T : Txt K mg) : FnOk P w K mg base (L2.CX P w) 2 T.f__law_changes T.fd__law_changes ["mould", "ones", "others", "at", "steps"] (SpD K fd__law_changes) := by
  refine fn_data (dvs := []) (kws := []) (N := N__law_changes) (.inr T.F__law_changes) sc__law_changes rfl (fun cdv A outer s H E hr tk => ?_)
  refine ⟨_, (pss_cons (ps_for (passes_of rfl) rfl (pi_range1 rfl T.b_range (pa_cons (pe_callB (g_len (K := K) rfl) rfl T.b_len boot_len (pa_cons (pv 4) pa_nil)) pa_nil)) (pg_name (i := 5) sc__law_changes.nd rfl (Or.inl rfl)) (pss_cons (ps_if (pt_cmpR (g_ne (K := K) rfl hr) (pe_callB (g_len (K := K) rfl) rfl T.b_len boot_len (pa_cons (pe_ix (g_ix (K := K) rfl hr) (pv 1) (pv 5) (fun _ _ => rfl)) pa_nil)) (pe_callB (g_len (K := K) rfl) rfl T.b_len boot_len (pa_cons (pe_ix (g_ix (K := K) rfl hr) (pv 2) (pv 5) (fun _ _ => rfl)) pa_nil)) (nomark _)) (pss_one (ps_ret pe_bl)) pss_nil)
      (pss_one (ps_for (passes_of rfl) rfl (pi_range1 rfl T.b_range (pa_cons (pe_callB (g_len (K := K) rfl) rfl T.b_len boot_len (pa_cons (pe_ix (g_ix (K := K) rfl hr) (pv 1) (pv 5) (fun _ _ => rfl)) pa_nil)) pa_nil)) (pg_name (i := 6) sc__law_changes.nd rfl (Or.inl rfl)) (pss_one (ps_if (pt_cmpR (g_ne (K := K) rfl hr) (pe_cl (m := 0) (ok_minus T) (hr.mono (by decide)) rfl T.g_minus T.k_minus T.b_minus (passD tk) (pa_cons (pe_ix (g_ix (K := K) rfl hr) (pe_ix (g_ix (K := K) rfl hr) (pv 2) (pv 5) (fun _ _ => rfl)) (pv 6) (fun _ _ => rfl)) (pa_cons (pe_ix (g_ix (K := K) rfl hr) (pe_ix (g_ix (K := K) rfl hr) (pv 1) (pv 5) (fun _ _ => rfl)) (pv 6) (fun _ _ => rfl)) pa_nil)) pk_nil) (pe_op g_mul (pe_ix (g_ix (K := K) rfl hr) (pv 4) (pv 5) (fun _ _ => rfl)) (pe_callTy g_int rfl T.b_int boot_int (pa_cons (pe_cmpR (g_eq (K := K) rfl hr) (pv 6) (pv 3) (nomark _)) pa_nil))) (nomark _)) (pss_one (ps_ret pe_bl)) pss_nil))))))
      (pss_one (ps_ret pe_bl))), fun ds N' b hl hd acc => ?_⟩
  obtain ⟨g, s, u, v, v', a, S, rfl, hm, hcn, hS, hSb, hce, hP⟩ := hd
  have lk : ∀ (w : List Int) (p : Nat), p < many g s u → ((laidK g s u w).find? fun kv => decide (kv.1 = Sum.inl (p : Int))).map (·.2) = some (.lst (iL (colV g s u w p))) := fun w p hp => by
    have q := laidK_lk (g := g) (s := s) (u := u) (v := w) (p := (p : Int)) (by omega) (by rw [Int.toNat_natCast]; exact hp)
    rw [Int.toNat_natCast] at q
    exact q
  refine w_seq (w_for allV (fun p ds b' => ∃ s5 s6 : Sd, ds = [.dat (shD g s u), .dat (.dct (laidK g s u v)), .dat (.dct (laidK g s u v')), .dat (.int a), .dat (.lst (iL S)), s5, s6] ∧ b' = fd__law_changes.cost [shD g s u, .dct (laidK g s u v), .dct (laidK g s u v'), .int a, .lst (iL S)] + b) (ei_r1 (p := true) (n := ((many g s u : Nat) : Int)) (ea_cons (EvD.eq (ev_cb (ea_cons (ev_var rfl) ea_nil) c_lenL) (by rw [iL_len, hS])) ea_nil) (by omega)) ⟨_, _, rfl, by rfl⟩ ?_ ?_)
  · rintro p ds' b' hp ⟨s5, s6, rfl, rfl⟩
    have hp : p < many g s u := by omega
    refine ⟨_, tg_name, ?_⟩
    refine w_seq (w_if (c := false) (EvT.eq (et_tst (ev_op (p := false) (x := .int ((cellsN g s v : Nat) : Int)) (y := .int ((cellsN g s v : Nat) : Int)) (ev_cb (ea_cons (ev_op (x := .dct (laidK g s u v)) (y := kD (.inl (p : Int))) (ev_var rfl) (ev_var rfl) (o_ixD (lk v p hp))) ea_nil) (ClD.as c_lenL (by rw [iL_len, col_len]))) (ev_cb (ea_cons (ev_op (x := .dct (laidK g s u v')) (y := kD (.inl (p : Int))) (ev_var rfl) (ev_var rfl) (o_ixD (lk v' p hp))) ea_nil) (ClD.as c_lenL (by rw [iL_len, col_len, hce]))) o_neI)) (by rw [decide_eq_true rfl]; rfl)) (fun h => nomatch h) (fun _ => w_next ?_))
    refine w_for allV (fun c ds b' => ∃ s6 : Sd, ds = [.dat (shD g s u), .dat (.dct (laidK g s u v)), .dat (.dct (laidK g s u v')), .dat (.int a), .dat (.lst (iL S)), .dat (.int (p : Int)), s6] ∧ b' = fd__law_changes.cost [shD g s u, .dct (laidK g s u v), .dct (laidK g s u v'), .int a, .lst (iL S)] + b) (ei_r1 (p := true) (n := ((cellsN g s v : Nat) : Int)) (ea_cons (ev_cb (ea_cons (ev_op (x := .dct (laidK g s u v)) (y := kD (.inl (p : Int))) (ev_var rfl) (ev_var rfl) (o_ixD (lk v p hp))) ea_nil) (ClD.as c_lenL (by rw [iL_len, col_len]))) ea_nil) (by omega)) ⟨_, rfl, rfl⟩ ?_ ?_
    · rintro c ds' b' hc ⟨s6, rfl, rfl⟩
      have hc : c < cellsN g s v := by omega
      refine ⟨_, tg_name, ?_⟩
      have a1 := (atI_iLm (l := colV g s u v p) (z := (c : Int)) (by omega) (by rw [col_len]; omega)).1
      have a2 := (atI_iLm (l := colV g s u v' p) (z := (c : Int)) (by omega) (by rw [col_len]; omega)).1
      have a3 := atI_iLm (l := S) (z := (p : Int)) (by omega) (by rw [hS]; omega)
      rw [Int.toNat_natCast] at a1 a2 a3
      have hb := hSb _ a3.2
      have hq := hP p c hp hc
      generalize S.getD p 0 = sp at a3 hb hq
      refine w_if (c := false) (EvT.eq (et_tst (ev_op (p := false) (x := .int (((colV g s u v' p).getD c 0 - (colV g s u v p).getD c 0) % 97)) (y := .int (sp * (if (decide ((c : Int) = a)) = true then 1 else 0))) (ev_cal (es := [.int ((colV g s u v' p).getD c 0), .int ((colV g s u v p).getD c 0)]) (ea_cons (ev_op (x := .lst (iL (colV g s u v' p))) (y := .int (c : Int)) (ev_op (x := .dct (laidK g s u v')) (y := kD (.inl (p : Int))) (ev_var rfl) (ev_var rfl) (o_ixD (lk v' p hp))) (ev_var rfl) (o_ixL a2)) (ea_cons (ev_op (x := .lst (iL (colV g s u v p))) (y := .int (c : Int)) (ev_op (x := .dct (laidK g s u v)) (y := kD (.inl (p : Int))) (ev_var rfl) (ev_var rfl) (o_ixD (lk v p hp))) (ev_var rfl) (o_ixL a1)) ea_nil)) cl_minus rfl) (ev_op (x := .int sp) (y := .int (if (decide ((c : Int) = a)) = true then 1 else 0)) (ev_op (x := .lst (iL S)) (y := .int (p : Int)) (ev_var rfl) (ev_var rfl) (o_ixL a3.1)) (ev_cb (ea_cons (ev_op (x := .int (c : Int)) (y := .int a) (ev_var rfl) (ev_var rfl) o_eqI) ea_nil) c_intB) (o_mul (cmul_of 10 10 (by omega) (by split <;> decide)))) o_neI)) (by rw [hq, decide_eq_true rfl]; rfl)) (fun h => nomatch h) (fun _ => w_next ?_)
      exact ⟨_, rfl, rfl⟩
    · rintro ds' b' ⟨s6, rfl, rfl⟩
      exact ⟨_, _, rfl, rfl⟩
  · rintro ds' b' ⟨s5, s6, rfl, rfl⟩
    exact w_ret (d := .bl true) (by walk_at "ev") ⟨by walk_at "b", rfl⟩

def fd_law : Fd := { n := 1, dom := fun ds => ∃ ns : List Int, ds = [.scr ns], cost := fun _ => 260, res := fun _ d => d = .bl true }
theorem cost_law (ns : List Int) (h : ns.length ≤ 63) : fd_law.cost [.scr ns] ≤ LIM := (by decide : 260 ≤ LIM)
theorem dom_law (ns : List Int) : fd_law.dom [.scr ns] := ⟨ns, rfl⟩
theorem cl__law_changes {g s u : Nat} {v v' : List Int} {a : Int} {S : List Int} (h1 : many g s u ≤ 100) (h2 : cellsN g s v ≤ 60) (h3 : S.length = many g s u) (h4 : ∀ x ∈ S, 0 ≤ x ∧ x < 97) (h5 : cellsN g s v' = cellsN g s v) (h6 : ∀ p c, p < many g s u → c < cellsN g s v → ((colV g s u v' p).getD c 0 - (colV g s u v p).getD c 0) % 97 = S.getD p 0 * (if (decide ((c : Int) = a)) = true then 1 else 0)) : Cal fd__law_changes [shD g s u, .dct (laidK g s u v), .dct (laidK g s u v'), .int a, .lst (iL S)] (.bl true) := ⟨rfl, ⟨g, s, u, v, v', a, S, rfl, h1, h2, h3, h4, h5, h6⟩, rfl, fun d q => q, fun _ _ q => q⟩
theorem ok_law (T : Txt K mg) : FnOk P w K mg base (L2.CX P w) 13 T.f_law T.fd_law ["script"] (SpD K fd_law) := by
  refine fn_data (dvs := []) (kws := []) (N := N_law) (.inr T.F_law) sc_law rfl (fun cdv A outer s H E hr tk => ?_)
  refine ⟨_, (pss_cons (ps_for (passes_of rfl) rfl (pi_range1 rfl T.b_range (pa_cons (pe_callB (g_max rfl) rfl T.b_max boot_max (pa_cons pe_int (pa_cons (pe_callB (g_min rfl) rfl T.b_min boot_min (pa_cons pe_int (pa_cons (pe_callB (g_len (K := K) rfl) rfl T.b_len boot_len (pa_cons (pv 0) pa_nil)) pa_nil))) pa_nil))) pa_nil)) (pg_name (i := 1) sc_law.nd rfl (Or.inl rfl)) (pss_cons (ps_set (i := 2) sc_law.nd rfl (Or.inl rfl) (pe_cl (m := 0) (ok__law_purse T) (hr.mono (by decide)) rfl T.g__law_purse T.k__law_purse T.b__law_purse (passD tk) (pa_cons (pv 0) (pa_cons (pv 1) pa_nil)) pk_nil))
      (pss_cons (ps_set (i := 3) sc_law.nd rfl (Or.inl rfl) (pe_op (g_add (K := K) rfl) pe_int (pe_cl (m := 0) (ok__law_drawn T) (hr.mono (by decide)) rfl T.g__law_drawn T.k__law_drawn T.b__law_drawn (passD tk) (pa_cons (pv 2) (pa_cons pe_int pa_nil)) pk_nil)))
      (pss_cons (ps_set (i := 4) sc_law.nd rfl (Or.inl rfl) (pe_cl (m := 0) (ok__law_shape T) (hr.mono (by decide)) rfl T.g__law_shape T.k__law_shape T.b__law_shape (passD tk) (pa_cons (pv 2) (pa_cons pe_int pa_nil)) pk_nil))
      (pss_cons (ps_set (i := 5) sc_law.nd rfl (Or.inl rfl) (pe_cl (m := 0) (ok__law_row T) (hr.mono (by decide)) rfl T.g__law_row T.k__law_row T.b__law_row (passD tk) (pa_cons (pv 2) (pa_cons pe_int pa_nil)) pk_nil))
      (pss_cons (ps_if (pt_not (g_tru (K := K) rfl (pe_cl (m := 0) (ok__law_read_back T) (hr.mono (by decide)) rfl T.g__law_read_back T.k__law_read_back T.b__law_read_back (passD tk) (pa_cons (pv 5) (pa_cons (pv 4) pa_nil)) pk_nil) (fun _ => rfl))) (pss_one (ps_ret pe_bl)) pss_nil)
      (pss_one (ps_if (pt_cmpR (g_ne (K := K) rfl hr) (pv 5) (pe_lst pa_nil) (nomark _)) (pss_cons (ps_set (i := 6) sc_law.nd rfl (Or.inl rfl) (pe_cl (m := 0) (ok__law_drawn T) (hr.mono (by decide)) rfl T.g__law_drawn T.k__law_drawn T.b__law_drawn (passD tk) (pa_cons (pv 2) (pa_cons (pe_callB (g_len (K := K) rfl) rfl T.b_len boot_len (pa_cons (pv 5) pa_nil)) pa_nil)) pk_nil))
      (pss_cons (ps_set (i := 7) sc_law.nd rfl (Or.inl rfl) (pe_callTy (g_listof (K := K) rfl) rfl T.b_list boot_list (pa_cons (pv 5) pa_nil)))
      (pss_cons (ps_asg (pe_op g_mod (pe_op (g_add (K := K) rfl) (pe_ix (g_ix (K := K) rfl hr) (pv 5) (pv 6) (fun _ _ => rfl)) (pv 3)) pe_int) (pg_sub (pv 7) (pv 6) (g_set hr)))
      (pss_cons (ps_set (i := 8) sc_law.nd rfl (Or.inl rfl) (pe_ix (g_ix (K := K) rfl hr) (pe_cl (m := 1) (ok_needed T) (hr.mono (by decide)) rfl T.g_needed T.k_needed T.b_needed_2_shape (passD tk) (pa_cons (pv 6) (pa_cons (pe_op (g_add (K := K) rfl) (pv 6) pe_int) pa_nil)) (pk_cons (pv 4) pk_nil)) pe_int (fun _ _ => rfl)))
      (pss_cons (ps_set (i := 9) sc_law.nd rfl (Or.inl rfl) (pe_op g_div (pv 6) (pe_op g_mul (pe_ix (g_ix (K := K) rfl hr) (pv 4) pe_int (fun _ _ => rfl)) (pe_ix (g_ix (K := K) rfl hr) (pv 4) pe_int (fun _ _ => rfl)))))
      (pss_cons (ps_set (i := 10) sc_law.nd rfl (Or.inl rfl) (pe_cl (m := 1) (ok_laid T) (hr.mono (by decide)) rfl T.g_laid T.k_laid T.b_laid_1_shape (passD tk) (pa_cons (pv 5) pa_nil) (pk_cons (pv 4) pk_nil)))
      (pss_one (ps_if (pt_not (g_tru (K := K) rfl (pe_cl (m := 0) (ok__law_changes T) (hr.mono (by decide)) rfl T.g__law_changes T.k__law_changes T.b__law_changes (passD tk) (pa_cons (pv 4) (pa_cons (pv 10) (pa_cons (pe_cl (m := 1) (ok_laid T) (hr.mono (by decide)) rfl T.g_laid T.k_laid T.b_laid_1_shape (passD tk) (pa_cons (pv 7) pa_nil) (pk_cons (pv 4) pk_nil)) (pa_cons (pv 9) (pa_cons (pe_cl (m := 0) (ok__law_steps T) (hr.mono (by decide)) rfl T.g__law_steps T.k__law_steps T.b__law_steps (passD tk) (pa_cons (pv 4) (pa_cons (pv 8) (pa_cons (pv 3) pa_nil))) pk_nil) pa_nil))))) pk_nil) (fun _ => rfl))) (pss_one (ps_ret pe_bl)) pss_nil)))))))) pss_nil))))))))
      (pss_one (ps_ret pe_bl))), fun ds N' b hl hd acc => ?_⟩
  obtain ⟨ns, rfl⟩ := hd
  have hc : fd_law.cost [.scr ns] + b = b + 260 := by show 260 + b = b + 260; omega
  rw [hc]
  refine w_seq (w_for allV (fun i ds b' => ∃ s1 s2 s3 s4 s5 s6 s7 s8 s9 s10 : Sd, ds = [.dat (.scr ns), s1, s2, s3, s4, s5, s6, s7, s8, s9, s10] ∧ b' = b + 65 * (4 - i)) (ei_r1 (n := max 1 (min 4 (ns.length : Int))) (by walk_at "ev") (by omega)) ⟨_, _, _, _, _, _, _, _, _, _, rfl, by omega⟩ ?_ ?_)
  · rintro i ds' b' hi ⟨s1, s2, s3, s4, s5, s6, s7, s8, s9, s10, rfl, rfl⟩
    refine ⟨_, tg_name, ?_⟩
    have hi4 : i < 4 := by omega
    have hb : b + 65 * (4 - i) = (b + 65 * (4 - (i + 1))) + 65 := by omega
    rw [hb]
    generalize hb1 : b + 65 * (4 - (i + 1)) = b1
    refine w_seq (w_asg (by walk_at "ev") (w_seq ?_))
    refine ws_asg (R := fun d => ∃ st : Int, d = .int st ∧ 1 ≤ st ∧ st < 97) (evs_op (b1 := b1 + 65) (b2 := b1 + 64) (R1 := fun d => d = .int 1) (R2' := fun _ d => ∃ z : Int, d = .int z ∧ 0 ≤ z ∧ z < 96) ev_int (fun x _ => (evs_cal (b' := b1 + 64) (by walk_at "ev") (cas_draw (m := 96) (by decide) (by decide)) rfl (by omega))) fun x y ex ⟨z, ey, z0, z1⟩ => by
      subst ex ey
      exact o_add.to ⟨1 + z, rfl, by omega, by omega⟩) ?_
    rintro _ ⟨st, rfl, t0, t1⟩
    refine w_seq (ws_asg (evs_cal (b' := b1 + 63) (by walk_at "ev") (cas__law_shape (most := 22) (by decide) (by decide)) rfl (by omega)) ?_)
    rintro _ ⟨g, s, u, rfl, h, hmo⟩
    refine w_seq (ws_asg (evs_cal (b' := b1 + 1) (by walk_at "ev") (cas__law_row (m := 60) (by decide) (by decide)) rfl (by omega)) ?_)
    rintro _ ⟨v, rfl, hv⟩
    obtain ⟨⟨g0, g1⟩, ⟨s0, s1⟩, u1⟩ := h.nat
    have hm := h.many
    have hmm : many g s u = g * (s + 1) + u := rfl
    have hcn := cells_small g0 s0 hv
    have hv60 := hv.1
    have hgs : g * s ≤ 16 := Nat.mul_le_mul g1 s1
    have w0 : 1 ≤ g * s := Nat.mul_le_mul g0 s0
    have gsi : (g : Int) * (s : Int) = ((g * s : Nat) : Int) := by push_cast; rfl
    have crb := cl__law_read_back h hv
    refine w_seq (w_if (c := false) (EvT.eq (et_not (et_tru (d := .bl true) (ev_cal (p := false) (es := [.lst (iL v), shD g s u]) (by walk_at "ev") crb rfl) rfl)) rfl) (fun h => nomatch h) (fun _ => w_next ?_))
    refine w_if (c := !decide (v = [])) (EvT.eq (et_tst (ev_op (p := false) (x := .lst (iL v)) (y := .lst []) (by walk_at "ev") (ev_lst ea_nil (by decide)) (o_ne (shp_lst _) rfl))) (by rw [eq_nil])) (fun hne => ?_) (fun hne => Wt.less (b' := b1) (w_next ?_) (by omega))
    · have hne : v ≠ [] := by simpa using hne
      have hvl : 1 ≤ v.length := List.length_pos_iff.mpr hne
      refine w_seq (ws_asg (evs_cal (b' := b1) (es := [.purse, .int (v.length : Int)]) (ea_cons (ev_var rfl) (ea_cons (EvD.eq (ev_cb (ea_cons (ev_var rfl) ea_nil) c_lenL) (by rw [iL_len])) ea_nil)) (cas_draw (m := (v.length : Int)) (by omega) (by omega)) rfl (by omega)) ?_)
      rintro _ ⟨k0, rfl, k1, k2⟩
      obtain ⟨k, rfl⟩ := Int.eq_ofNat_of_zero_le k1
      have hk : k < v.length := by omega
      have hat := (atI_iLm (l := v) (z := (k : Int)) (by omega) (by omega)).1
      rw [Int.toNat_natCast] at hat
      have hx := row_getD hv k
      refine w_seq (w_ownE (i := 7) (eo_list (d := .lst (iL v)) (by walk_at "ev") rfl) (w_seq ?_))
      refine ws_setO (i := 7) (k := (k : Int)) (R := fun d => d = .int ((v.getD k 0 + st) % 97)) rfl (ev_op (x := .int (v.getD k 0 + st)) (y := .int 97) (ev_op (x := .int (v.getD k 0)) (y := .int st) (ev_op (x := .lst (iL v)) (y := .int (k : Int)) (ev_var rfl) (ev_var rfl) (o_ixL hat)) (ev_var rfl) o_add) ev_int (o_mod (by decide))) (ev_var rfl) (by omega) (by rw [iL_len]; omega) ?_
      rintro _ rfl
      have es : (iL v).set (k : Int).toNat (.int ((v.getD k 0 + st) % 97)) = iL (v.set k ((v.getD k 0 + st) % 97)) := by
        rw [Int.toNat_natCast]; unfold iL; rw [List.map_set]
      rw [es]
      have hv' : rowOk (v.set k ((v.getD k 0 + st) % 97)) := row_set hv ⟨Int.emod_nonneg _ (by decide), Int.emod_lt_of_pos _ (by decide)⟩
      obtain ⟨o, ho⟩ := Int.eq_ofNat_of_zero_le (spot_bd (u := u) g0 s0 k).1
      have cn : Cal (fd_needed T.t_NoShape) [.int (k : Int), .int ((k : Int) + 1), shD g s u] (.lst (iL [(o : Int)])) := by
        have q := cl_needed (C := T.t_NoShape) (m := (k : Int)) (n := (k : Int) + 1) h (by omega) (by omega)
        rw [need_one g0 s0, ho] at q
        exact q
      refine w_seq (w_asg (d := .int (o : Int)) (ev_op (x := .lst (iL [(o : Int)])) (y := .int 0) (ev_calK (es := [.int (k : Int), .int ((k : Int) + 1)]) (fs := [shD g s u]) (by walk_at "ev") (by walk_at "ev") cn rfl rfl) ev_int (o_ixL rfl)) (w_seq ?_))
      have ek : (k : Int) / ((g * s : Nat) : Int) = ((k / (g * s) : Nat) : Int) := by push_cast; rfl
      refine w_asg (d := .int ((k / (g * s) : Nat) : Int)) (EvD.eq (ev_op (x := .int (k : Int)) (y := .int ((g * s : Nat) : Int)) (ev_var rfl) (EvD.eq (by walk_at "ev") (by rw [gsi])) (o_div ?_)) (by rw [ek])) (w_seq ?_)
      · exact wide_div (b := 10) (by omega) (by omega) (by decide) (by decide)
      have cL : Cal (fd_laid T.t_NoShape T.t_NoRow) [.lst (iL v), shD g s u] (.dct (laidK g s u v)) := cl_laid h hv
      have cL' : Cal (fd_laid T.t_NoShape T.t_NoRow) [.lst (iL (v.set k ((v.getD k 0 + st) % 97))), shD g s u] (.dct (laidK g s u (v.set k ((v.getD k 0 + st) % 97)))) := cl_laid h hv'
      obtain ⟨hd1, e1⟩ := spot_eq g0 s0 k
      rw [ho] at e1
      have e1 : o = k % (g * s) / s * (s + 1) + k % (g * s) % s := by omega
      have hjm := Nat.mod_lt (k % (g * s)) (show 0 < s by omega)
      have o1 : o / (s + 1) < g := by rw [e1, dv _ (s + 1) _ (by omega)]; exact hd1
      have o2 : o % (s + 1) ≠ s := by rw [e1, md _ (s + 1) _ (by omega)]; omega
      have cst := cl__law_steps h o1 o2 (show 0 ≤ st by omega) t1
      have cch : Cal fd__law_changes [shD g s u, .dct (laidK g s u v), .dct (laidK g s u (v.set k ((v.getD k 0 + st) % 97))), .int ((k / (g * s) : Nat) : Int), .lst (iL (stepsV g s u o st))] (.bl true) := cl__law_changes (by omega) hcn (by simp [stepsV]) (fun x hx => by
        obtain ⟨p, _, rfl⟩ := List.mem_map.mp hx
        exact stepV_bd (by omega) t1 p) (cells_set ..) fun p c hp hcc => by
          have q := change_at (u := u) g0 s0 hv hk t0 t1 ho hp hcc
          rw [q]
          congr 1
          exact (getD_mapR _ hp).symm
      refine w_asg (d := .dct (laidK g s u v)) (ev_calK (es := [.lst (iL v)]) (fs := [shD g s u]) (by walk_at "ev") (by walk_at "ev") cL rfl rfl) ?_
      refine w_if (c := false) (EvT.eq (et_not (et_tru (d := .bl true) (ev_cal (p := false) (es := [shD g s u, .dct (laidK g s u v), .dct (laidK g s u (v.set k ((v.getD k 0 + st) % 97))), .int ((k / (g * s) : Nat) : Int), .lst (iL (stepsV g s u o st))]) (ea_cons (ev_var rfl) (ea_cons (ev_var rfl) (ea_cons (ev_calK (es := [.lst (iL (v.set k ((v.getD k 0 + st) % 97)))]) (fs := [shD g s u]) (ea_cons (ev_own rfl) ea_nil) (ea_cons (ev_var rfl) ea_nil) cL' rfl rfl) (ea_cons (ev_var rfl) (ea_cons (ev_cal (es := [shD g s u, .int (o : Int), .int st]) (by walk_at "ev") cst rfl) ea_nil))))) cch rfl) rfl)) rfl) (fun h => nomatch h) (fun _ => w_next ?_)
      exact ⟨_, _, _, _, _, _, _, _, _, _, rfl, by first | rfl | exact hb1.symm⟩
    · exact ⟨_, _, _, _, _, _, _, _, _, _, rfl, by first | rfl | exact hb1.symm⟩
  · rintro ds' b' ⟨s1, s2, s3, s4, s5, s6, s7, s8, s9, s10, rfl, rfl⟩
    exact w_ret (d := .bl true) (by walk_at "ev") ⟨by omega, rfl⟩

end
/-! ### all of it -/
theorem all_mk {P : Program} {w : World} {K : PySem.W.Frag} {h : Heap} {mg : Str → Option Value} {fa : Addr} (X : K.In h) (G : h.Ns mainGlobals mg) (hfa : mg "law" = some (.ref fa)) (c : SaysS fnL exL K)
    : ∃ fd : FuncData, (∀ (s : Shared) (v : Value), BindsTo s fd ⟨[v], []⟩ [("script", v)]) ∧ ∀ base : Heap, K.In base → base.Ns mainGlobals mg → FnOk P w K mg base (L2.CX P w) 13 fa fd ["script"] (SpD K fd_law) := by
  obtain ⟨fd_plus, F_plus⟩ := c.def_ 0 (d := dd_plus) rfl
  have F_plus : Fun K "plus" "plus" s_plus (He.ga K "plus") fd_plus := fun_of F_plus
  obtain ⟨fd_minus, F_minus⟩ := c.def_ 1 (d := dd_minus) rfl
  have F_minus : Fun K "minus" "minus" s_minus (He.ga K "minus") fd_minus := fun_of F_minus
  obtain ⟨fd_times, F_times⟩ := c.def_ 2 (d := dd_times) rfl
  have F_times : Fun K "times" "times" s_times (He.ga K "times") fd_times := fun_of F_times
  obtain ⟨fd_power, F_power⟩ := c.def_ 3 (d := dd_power) rfl
  have F_power : Fun K "power" "power" s_power (He.ga K "power") fd_power := fun_of F_power
  obtain ⟨fd_is_whole, F_is_whole⟩ := c.def_ 4 (d := dd_is_whole) rfl
  have F_is_whole : Fun K "is_whole" "is_whole" s_is_whole (He.ga K "is_whole") fd_is_whole := fun_of F_is_whole
  obtain ⟨fd_is_number, F_is_number⟩ := c.def_ 5 (d := dd_is_number) rfl
  have F_is_number : Fun K "is_number" "is_number" s_is_number (He.ga K "is_number") fd_is_number := fun_of F_is_number
  obtain ⟨fd_is_shape, F_is_shape⟩ := c.def_ 6 (d := dd_is_shape) rfl
  have F_is_shape : Fun K "is_shape" "is_shape" s_is_shape (He.ga K "is_shape") fd_is_shape := fun_of F_is_shape
  obtain ⟨fd_need_shape, F_need_shape⟩ := c.def_ 7 (d := dd_need_shape) rfl
  have F_need_shape : Fun K "need_shape" "need_shape" s_need_shape (He.ga K "need_shape") fd_need_shape := fun_of F_need_shape
  obtain ⟨fd_count, F_count⟩ := c.def_ 8 (d := dd_count) rfl
  have F_count : FunD K "count" "count" (defArgs s_count) (defBody s_count) (defScope s_count) [] [("shape", .ref (He.ga K "PLAIN"))] (He.ga K "count") fd_count := F_count
  obtain ⟨fd_is_place, F_is_place⟩ := c.def_ 9 (d := dd_is_place) rfl
  have F_is_place : Fun K "is_place" "is_place" s_is_place (He.ga K "is_place") fd_is_place := fun_of F_is_place
  obtain ⟨fd_need_places, F_need_places⟩ := c.def_ 10 (d := dd_need_places) rfl
  have F_need_places : Fun K "need_places" "need_places" s_need_places (He.ga K "need_places") fd_need_places := fun_of F_need_places
  obtain ⟨fd_data_places, F_data_places⟩ := c.def_ 11 (d := dd_data_places) rfl
  have F_data_places : FunD K "data_places" "data_places" (defArgs s_data_places) (defBody s_data_places) (defScope s_data_places) [] [("shape", .ref (He.ga K "PLAIN"))] (He.ga K "data_places") fd_data_places := F_data_places
  obtain ⟨fd_kind_of, F_kind_of⟩ := c.def_ 12 (d := dd_kind_of) rfl
  have F_kind_of : FunD K "kind_of" "kind_of" (defArgs s_kind_of) (defBody s_kind_of) (defScope s_kind_of) [] [("shape", .ref (He.ga K "PLAIN"))] (He.ga K "kind_of") fd_kind_of := F_kind_of
  obtain ⟨fd_mark, F_mark⟩ := c.def_ 13 (d := dd_mark) rfl
  have F_mark : FunD K "mark" "mark" (defArgs s_mark) (defBody s_mark) (defScope s_mark) [] [("shape", .ref (He.ga K "PLAIN"))] (He.ga K "mark") fd_mark := F_mark
  obtain ⟨fd_local_check, F_local_check⟩ := c.def_ 14 (d := dd_local_check) rfl
  have F_local_check : Fun K "local_check" "local_check" s_local_check (He.ga K "local_check") fd_local_check := fun_of F_local_check
  obtain ⟨fd_over_check, F_over_check⟩ := c.def_ 15 (d := dd_over_check) rfl
  have F_over_check : Fun K "over_check" "over_check" s_over_check (He.ga K "over_check") fd_over_check := fun_of F_over_check
  obtain ⟨fd_checks, F_checks⟩ := c.def_ 16 (d := dd_checks) rfl
  have F_checks : FunD K "checks" "checks" (defArgs s_checks) (defBody s_checks) (defScope s_checks) [] [("shape", .ref (He.ga K "PLAIN"))] (He.ga K "checks") fd_checks := F_checks
  obtain ⟨fd_filled, F_filled⟩ := c.def_ 17 (d := dd_filled) rfl
  have F_filled : Fun K "filled" "filled" s_filled (He.ga K "filled") fd_filled := fun_of F_filled
  obtain ⟨fd_is_filling, F_is_filling⟩ := c.def_ 18 (d := dd_is_filling) rfl
  have F_is_filling : FunD K "is_filling" "is_filling" (defArgs s_is_filling) (defBody s_is_filling) (defScope s_is_filling) [] [("shape", .ref (He.ga K "PLAIN"))] (He.ga K "is_filling") fd_is_filling := F_is_filling
  obtain ⟨fd_need_row, F_need_row⟩ := c.def_ 19 (d := dd_need_row) rfl
  have F_need_row : Fun K "need_row" "need_row" s_need_row (He.ga K "need_row") fd_need_row := fun_of F_need_row
  obtain ⟨fd_cells_for, F_cells_for⟩ := c.def_ 20 (d := dd_cells_for) rfl
  have F_cells_for : FunD K "cells_for" "cells_for" (defArgs s_cells_for) (defBody s_cells_for) (defScope s_cells_for) [] [("shape", .ref (He.ga K "PLAIN"))] (He.ga K "cells_for") fd_cells_for := F_cells_for
  obtain ⟨fd_laid, F_laid⟩ := c.def_ 21 (d := dd_laid) rfl
  have F_laid : FunD K "laid" "laid" (defArgs s_laid) (defBody s_laid) (defScope s_laid) [] [("shape", .ref (He.ga K "PLAIN"))] (He.ga K "laid") fd_laid := F_laid
  obtain ⟨fd_unlaid, F_unlaid⟩ := c.def_ 22 (d := dd_unlaid) rfl
  have F_unlaid : FunD K "unlaid" "unlaid" (defArgs s_unlaid) (defBody s_unlaid) (defScope s_unlaid) [] [("shape", .ref (He.ga K "PLAIN"))] (He.ga K "unlaid") fd_unlaid := F_unlaid
  obtain ⟨fd_needed, F_needed⟩ := c.def_ 23 (d := dd_needed) rfl
  have F_needed : FunD K "needed" "needed" (defArgs s_needed) (defBody s_needed) (defScope s_needed) [] [("shape", .ref (He.ga K "PLAIN"))] (He.ga K "needed") fd_needed := F_needed
  obtain ⟨fd__law_purse, F__law_purse⟩ := c.def_ 24 (d := dd__law_purse) rfl
  have F__law_purse : Fun K "_law_purse" "_law_purse" s__law_purse (He.ga K "_law_purse") fd__law_purse := fun_of F__law_purse
  obtain ⟨fd__law_drawn, F__law_drawn⟩ := c.def_ 25 (d := dd__law_drawn) rfl
  have F__law_drawn : Fun K "_law_drawn" "_law_drawn" s__law_drawn (He.ga K "_law_drawn") fd__law_drawn := fun_of F__law_drawn
  obtain ⟨fd__law_shape, F__law_shape⟩ := c.def_ 26 (d := dd__law_shape) rfl
  have F__law_shape : Fun K "_law_shape" "_law_shape" s__law_shape (He.ga K "_law_shape") fd__law_shape := fun_of F__law_shape
  obtain ⟨fd__law_row, F__law_row⟩ := c.def_ 27 (d := dd__law_row) rfl
  have F__law_row : Fun K "_law_row" "_law_row" s__law_row (He.ga K "_law_row") fd__law_row := fun_of F__law_row
  obtain ⟨fd__law_read_back, F__law_read_back⟩ := c.def_ 28 (d := dd__law_read_back) rfl
  have F__law_read_back : Fun K "_law_read_back" "_law_read_back" s__law_read_back (He.ga K "_law_read_back") fd__law_read_back := fun_of F__law_read_back
  obtain ⟨fd__law_steps, F__law_steps⟩ := c.def_ 29 (d := dd__law_steps) rfl
  have F__law_steps : Fun K "_law_steps" "_law_steps" s__law_steps (He.ga K "_law_steps") fd__law_steps := fun_of F__law_steps
  obtain ⟨fd__law_changes, F__law_changes⟩ := c.def_ 30 (d := dd__law_changes) rfl
  have F__law_changes : Fun K "_law_changes" "_law_changes" s__law_changes (He.ga K "_law_changes") fd__law_changes := fun_of F__law_changes
  obtain ⟨fd_law, F_law⟩ := c.def_ 31 (d := dd_law) rfl
  have FD_law : FunD K "law" "law" (defArgs s_law) (defBody s_law) (defScope s_law) [] [] (He.ga K "law") fd_law := F_law
  have F_law : Fun K "law" "law" s_law (He.ga K "law") fd_law := fun_of F_law
  have p_MARKS : ∀ H : Hp, Rp K H (.ref (He.ga K "MARKS")) (.tup (([1, 11, 40, 30] : List Int).map D.int)) := fun H => ktup_dv (c.fact 32 rfl) H
  have p_PLAIN : ∀ H : Hp, Rp K H (.ref (He.ga K "PLAIN")) (.tup (([2, 3, 2] : List Int).map D.int)) := fun H => ktup_dv (c.fact 34 rfl) H
  obtain ⟨t_PRIME, c_PRIME⟩ := He.int_ok X G (x := "PRIME") (i := 97) (c.fact 36 rfl)
  obtain ⟨t_MOST_SIZE, c_MOST_SIZE⟩ := He.int_ok X G (x := "MOST_SIZE") (i := 4) (c.fact 37 rfl)
  obtain ⟨t_MOST_SUMS, c_MOST_SUMS⟩ := He.int_ok X G (x := "MOST_SUMS") (i := 2) (c.fact 38 rfl)
  obtain ⟨t_MOST, c_MOST⟩ := He.int_ok X G (x := "MOST") (i := 60) (c.fact 39 rfl)
  obtain ⟨fdI_NoPlace, FI_NoPlace⟩ := c.def_ 32 (d := dd_NoPlace_init) rfl
  have FI_NoPlace : Fun K "__init__" "NoPlace.__init__" s_NoPlace_init (He.ma K (He.ga K "NoPlace") "__init__") fdI_NoPlace := fun_of FI_NoPlace
  obtain ⟨fdI_NoRow, FI_NoRow⟩ := c.def_ 33 (d := dd_NoRow_init) rfl
  have FI_NoRow : Fun K "__init__" "NoRow.__init__" s_NoRow_init (He.ma K (He.ga K "NoRow") "__init__") fdI_NoRow := fun_of FI_NoRow
  obtain ⟨fdI_NoShape, FI_NoShape⟩ := c.def_ 34 (d := dd_NoShape_init) rfl
  have FI_NoShape : Fun K "__init__" "NoShape.__init__" s_NoShape_init (He.ma K (He.ga K "NoShape") "__init__") fdI_NoShape := fun_of FI_NoShape
  let T : Txt K mg := {
    f_plus := (He.ga K "plus"), fd_plus := fd_plus, F_plus := F_plus, g_plus := PySem.W.mg_of X G (c.eq 0 rfl), k_plus := F_plus.kp,
    b_plus := Kb.all (F_plus.binds (ps := ["one", "other"]) fun _ _ _ _ _ _ us hl => match us, hl with | [_, _], _ => rfl),
    f_minus := (He.ga K "minus"), fd_minus := fd_minus, F_minus := F_minus, g_minus := PySem.W.mg_of X G (c.eq 1 rfl), k_minus := F_minus.kp,
    b_minus := Kb.all (F_minus.binds (ps := ["one", "other"]) fun _ _ _ _ _ _ us hl => match us, hl with | [_, _], _ => rfl),
    f_times := (He.ga K "times"), fd_times := fd_times, F_times := F_times, g_times := PySem.W.mg_of X G (c.eq 2 rfl), k_times := F_times.kp,
    b_times := Kb.all (F_times.binds (ps := ["one", "other"]) fun _ _ _ _ _ _ us hl => match us, hl with | [_, _], _ => rfl),
    f_power := (He.ga K "power"), fd_power := fd_power, F_power := F_power, g_power := PySem.W.mg_of X G (c.eq 3 rfl), k_power := F_power.kp,
    b_power := Kb.all (F_power.binds (ps := ["one", "many"]) fun _ _ _ _ _ _ us hl => match us, hl with | [_, _], _ => rfl),
    f_is_whole := (He.ga K "is_whole"), fd_is_whole := fd_is_whole, F_is_whole := F_is_whole, g_is_whole := PySem.W.mg_of X G (c.eq 4 rfl), k_is_whole := F_is_whole.kp,
    b_is_whole := Kb.all (F_is_whole.binds (ps := ["thing"]) fun _ _ _ _ _ _ us hl => match us, hl with | [_], _ => rfl),
    f_is_number := (He.ga K "is_number"), fd_is_number := fd_is_number, F_is_number := F_is_number, g_is_number := PySem.W.mg_of X G (c.eq 5 rfl), k_is_number := F_is_number.kp,
    b_is_number := Kb.all (F_is_number.binds (ps := ["thing"]) fun _ _ _ _ _ _ us hl => match us, hl with | [_], _ => rfl),
    f_is_shape := (He.ga K "is_shape"), fd_is_shape := fd_is_shape, F_is_shape := F_is_shape, g_is_shape := PySem.W.mg_of X G (c.eq 6 rfl), k_is_shape := F_is_shape.kp,
    b_is_shape := Kb.all (F_is_shape.binds (ps := ["thing"]) fun _ _ _ _ _ _ us hl => match us, hl with | [_], _ => rfl),
    f_need_shape := (He.ga K "need_shape"), fd_need_shape := fd_need_shape, F_need_shape := F_need_shape, g_need_shape := PySem.W.mg_of X G (c.eq 7 rfl), k_need_shape := F_need_shape.kp,
    b_need_shape := Kb.all (F_need_shape.binds (ps := ["thing"]) fun _ _ _ _ _ _ us hl => match us, hl with | [_], _ => rfl),
    f_count := (He.ga K "count"), fd_count := fd_count, F_count := F_count, g_count := PySem.W.mg_of X G (c.eq 8 rfl), k_count := F_count.kp,
    b_count_0_shape := Kb.kw F_count 0 ["shape"] (fun _ _ _ _ _ _ us ws h1 h2 => match us, ws, h1, h2 with | [], [_], _, _ => rfl),
    f_is_place := (He.ga K "is_place"), fd_is_place := fd_is_place, F_is_place := F_is_place, g_is_place := PySem.W.mg_of X G (c.eq 9 rfl), k_is_place := F_is_place.kp,
    b_is_place := Kb.all (F_is_place.binds (ps := ["thing", "shape"]) fun _ _ _ _ _ _ us hl => match us, hl with | [_, _], _ => rfl),
    f_need_places := (He.ga K "need_places"), fd_need_places := fd_need_places, F_need_places := F_need_places, g_need_places := PySem.W.mg_of X G (c.eq 10 rfl), k_need_places := F_need_places.kp,
    b_need_places := Kb.all (F_need_places.binds (ps := ["things", "shape"]) fun _ _ _ _ _ _ us hl => match us, hl with | [_, _], _ => rfl),
    f_data_places := (He.ga K "data_places"), fd_data_places := fd_data_places, F_data_places := F_data_places, g_data_places := PySem.W.mg_of X G (c.eq 11 rfl), k_data_places := F_data_places.kp,
    b_data_places_0_shape := Kb.kw F_data_places 0 ["shape"] (fun _ _ _ _ _ _ us ws h1 h2 => match us, ws, h1, h2 with | [], [_], _, _ => rfl),
    f_kind_of := (He.ga K "kind_of"), fd_kind_of := fd_kind_of, F_kind_of := F_kind_of, g_kind_of := PySem.W.mg_of X G (c.eq 12 rfl), k_kind_of := F_kind_of.kp,
    b_kind_of_1_shape := Kb.kw F_kind_of 1 ["shape"] (fun _ _ _ _ _ _ us ws h1 h2 => match us, ws, h1, h2 with | [_], [_], _, _ => rfl),
    f_mark := (He.ga K "mark"), fd_mark := fd_mark, F_mark := F_mark, g_mark := PySem.W.mg_of X G (c.eq 13 rfl), k_mark := F_mark.kp,
    b_mark_1_shape := Kb.kw F_mark 1 ["shape"] (fun _ _ _ _ _ _ us ws h1 h2 => match us, ws, h1, h2 with | [_], [_], _, _ => rfl),
    f_local_check := (He.ga K "local_check"), fd_local_check := fd_local_check, F_local_check := F_local_check, g_local_check := PySem.W.mg_of X G (c.eq 14 rfl), k_local_check := F_local_check.kp,
    b_local_check := Kb.all (F_local_check.binds (ps := ["group", "shape"]) fun _ _ _ _ _ _ us hl => match us, hl with | [_, _], _ => rfl),
    f_over_check := (He.ga K "over_check"), fd_over_check := fd_over_check, F_over_check := F_over_check, g_over_check := PySem.W.mg_of X G (c.eq 15 rfl), k_over_check := F_over_check.kp,
    b_over_check := Kb.all (F_over_check.binds (ps := ["number", "shape"]) fun _ _ _ _ _ _ us hl => match us, hl with | [_, _], _ => rfl),
    f_checks := (He.ga K "checks"), fd_checks := fd_checks, F_checks := F_checks, g_checks := PySem.W.mg_of X G (c.eq 16 rfl), k_checks := F_checks.kp,
    b_checks_0_shape := Kb.kw F_checks 0 ["shape"] (fun _ _ _ _ _ _ us ws h1 h2 => match us, ws, h1, h2 with | [], [_], _, _ => rfl),
    f_filled := (He.ga K "filled"), fd_filled := fd_filled, F_filled := F_filled, g_filled := PySem.W.mg_of X G (c.eq 17 rfl), k_filled := F_filled.kp,
    b_filled := Kb.all (F_filled.binds (ps := ["data", "shape"]) fun _ _ _ _ _ _ us hl => match us, hl with | [_, _], _ => rfl),
    f_is_filling := (He.ga K "is_filling"), fd_is_filling := fd_is_filling, F_is_filling := F_is_filling, g_is_filling := PySem.W.mg_of X G (c.eq 18 rfl), k_is_filling := F_is_filling.kp,
    b_is_filling_1_shape := Kb.kw F_is_filling 1 ["shape"] (fun _ _ _ _ _ _ us ws h1 h2 => match us, ws, h1, h2 with | [_], [_], _, _ => rfl),
    f_need_row := (He.ga K "need_row"), fd_need_row := fd_need_row, F_need_row := F_need_row, g_need_row := PySem.W.mg_of X G (c.eq 19 rfl), k_need_row := F_need_row.kp,
    b_need_row := Kb.all (F_need_row.binds (ps := ["thing"]) fun _ _ _ _ _ _ us hl => match us, hl with | [_], _ => rfl),
    f_cells_for := (He.ga K "cells_for"), fd_cells_for := fd_cells_for, F_cells_for := F_cells_for, g_cells_for := PySem.W.mg_of X G (c.eq 20 rfl), k_cells_for := F_cells_for.kp,
    b_cells_for_1_shape := Kb.kw F_cells_for 1 ["shape"] (fun _ _ _ _ _ _ us ws h1 h2 => match us, ws, h1, h2 with | [_], [_], _, _ => rfl),
    f_laid := (He.ga K "laid"), fd_laid := fd_laid, F_laid := F_laid, g_laid := PySem.W.mg_of X G (c.eq 21 rfl), k_laid := F_laid.kp,
    b_laid_1_shape := Kb.kw F_laid 1 ["shape"] (fun _ _ _ _ _ _ us ws h1 h2 => match us, ws, h1, h2 with | [_], [_], _, _ => rfl),
    f_unlaid := (He.ga K "unlaid"), fd_unlaid := fd_unlaid, F_unlaid := F_unlaid, g_unlaid := PySem.W.mg_of X G (c.eq 22 rfl), k_unlaid := F_unlaid.kp,
    b_unlaid_2_shape := Kb.kw F_unlaid 2 ["shape"] (fun _ _ _ _ _ _ us ws h1 h2 => match us, ws, h1, h2 with | [_, _], [_], _, _ => rfl),
    f_needed := (He.ga K "needed"), fd_needed := fd_needed, F_needed := F_needed, g_needed := PySem.W.mg_of X G (c.eq 23 rfl), k_needed := F_needed.kp,
    b_needed_2_shape := Kb.kw F_needed 2 ["shape"] (fun _ _ _ _ _ _ us ws h1 h2 => match us, ws, h1, h2 with | [_, _], [_], _, _ => rfl),
    f__law_purse := (He.ga K "_law_purse"), fd__law_purse := fd__law_purse, F__law_purse := F__law_purse, g__law_purse := PySem.W.mg_of X G (c.eq 24 rfl), k__law_purse := F__law_purse.kp,
    b__law_purse := Kb.all (F__law_purse.binds (ps := ["script", "k"]) fun _ _ _ _ _ _ us hl => match us, hl with | [_, _], _ => rfl),
    f__law_drawn := (He.ga K "_law_drawn"), fd__law_drawn := fd__law_drawn, F__law_drawn := F__law_drawn, g__law_drawn := PySem.W.mg_of X G (c.eq 25 rfl), k__law_drawn := F__law_drawn.kp,
    b__law_drawn := Kb.all (F__law_drawn.binds (ps := ["purse", "many"]) fun _ _ _ _ _ _ us hl => match us, hl with | [_, _], _ => rfl),
    f__law_shape := (He.ga K "_law_shape"), fd__law_shape := fd__law_shape, F__law_shape := F__law_shape, g__law_shape := PySem.W.mg_of X G (c.eq 26 rfl), k__law_shape := F__law_shape.kp,
    b__law_shape := Kb.all (F__law_shape.binds (ps := ["purse", "most"]) fun _ _ _ _ _ _ us hl => match us, hl with | [_, _], _ => rfl),
    f__law_row := (He.ga K "_law_row"), fd__law_row := fd__law_row, F__law_row := F__law_row, g__law_row := PySem.W.mg_of X G (c.eq 27 rfl), k__law_row := F__law_row.kp,
    b__law_row := Kb.all (F__law_row.binds (ps := ["purse", "most"]) fun _ _ _ _ _ _ us hl => match us, hl with | [_, _], _ => rfl),
    f__law_read_back := (He.ga K "_law_read_back"), fd__law_read_back := fd__law_read_back, F__law_read_back := F__law_read_back, g__law_read_back := PySem.W.mg_of X G (c.eq 28 rfl), k__law_read_back := F__law_read_back.kp,
    b__law_read_back := Kb.all (F__law_read_back.binds (ps := ["row", "mould"]) fun _ _ _ _ _ _ us hl => match us, hl with | [_, _], _ => rfl),
    f__law_steps := (He.ga K "_law_steps"), fd__law_steps := fd__law_steps, F__law_steps := F__law_steps, g__law_steps := PySem.W.mg_of X G (c.eq 29 rfl), k__law_steps := F__law_steps.kp,
    b__law_steps := Kb.all (F__law_steps.binds (ps := ["mould", "own", "step"]) fun _ _ _ _ _ _ us hl => match us, hl with | [_, _, _], _ => rfl),
    f__law_changes := (He.ga K "_law_changes"), fd__law_changes := fd__law_changes, F__law_changes := F__law_changes, g__law_changes := PySem.W.mg_of X G (c.eq 30 rfl), k__law_changes := F__law_changes.kp,
    b__law_changes := Kb.all (F__law_changes.binds (ps := ["mould", "ones", "others", "at", "steps"]) fun _ _ _ _ _ _ us hl => match us, hl with | [_, _, _, _, _], _ => rfl),
    f_law := (He.ga K "law"), fd_law := fd_law, F_law := F_law, g_law := PySem.W.mg_of X G (c.eq 31 rfl), k_law := F_law.kp,
    b_law := Kb.all (F_law.binds (ps := ["script"]) fun _ _ _ _ _ _ us hl => match us, hl with | [_], _ => rfl),
    t_MARKS := (He.ga K "MARKS"), c_MARKS := PySem.W.mg_of X G (c.eq 33 rfl), p_MARKS := p_MARKS, q_MARKS := fun H => .cons (p_MARKS H) .nil,
    t_PLAIN := (He.ga K "PLAIN"), c_PLAIN := PySem.W.mg_of X G (c.eq 35 rfl), p_PLAIN := p_PLAIN, q_PLAIN := fun H => .cons (p_PLAIN H) .nil,
    t_PRIME := t_PRIME, c_PRIME := c_PRIME,
    t_MOST_SIZE := t_MOST_SIZE, c_MOST_SIZE := c_MOST_SIZE,
    t_MOST_SUMS := t_MOST_SUMS, c_MOST_SUMS := c_MOST_SUMS,
    t_MOST := t_MOST, c_MOST := c_MOST,
    t_NoPlace := (He.ga K "NoPlace"), g_NoPlace := PySem.W.mg_of X G (c.eq 41 rfl), yN_NoPlace := (c.eq 40 rfl),
    t_NoRow := (He.ga K "NoRow"), g_NoRow := PySem.W.mg_of X G (c.eq 43 rfl), yN_NoRow := (c.eq 42 rfl),
    t_NoShape := (He.ga K "NoShape"), g_NoShape := PySem.W.mg_of X G (c.eq 45 rfl), yN_NoShape := (c.eq 44 rfl),
    fI_NoPlace := (He.ma K (He.ga K "NoPlace") "__init__"), fdI_NoPlace := fdI_NoPlace, o_NoPlace := ⟨excB_ok (c.fact 47 rfl), (c.eq 48 rfl), (c.eq 46 rfl), (c.eq 49 rfl), (c.fact 50 rfl)⟩, e_NoPlace := ⟨(c.eq 51 rfl), (c.eq 52 rfl), (c.eq 46 rfl), (c.fact 53 rfl), (c.eq 54 rfl), (c.eq 55 rfl), (c.eq 56 rfl), (c.eq 57 rfl)⟩, n_NoPlace := (c.eq 58 rfl), i_NoPlace := (c.eq 59 rfl), tI_NoPlace := (c.eq 60 rfl), FI_NoPlace := FI_NoPlace, bI_NoPlace := FI_NoPlace.binds (ps := ["self", "place"]) fun _ _ _ _ _ _ us hl => match us, hl with | [_, _], _ => rfl,
    y_NoPlace_NoPlace := (c.eq 61 rfl),
    y_NoPlace_NoRow := (c.eq 62 rfl),
    y_NoPlace_NoShape := (c.eq 63 rfl),
    fI_NoRow := (He.ma K (He.ga K "NoRow") "__init__"), fdI_NoRow := fdI_NoRow, o_NoRow := ⟨excB_ok (c.fact 65 rfl), (c.eq 66 rfl), (c.eq 64 rfl), (c.eq 67 rfl), (c.fact 68 rfl)⟩, e_NoRow := ⟨(c.eq 69 rfl), (c.eq 70 rfl), (c.eq 64 rfl), (c.fact 71 rfl), (c.eq 72 rfl), (c.eq 73 rfl), (c.eq 74 rfl), (c.eq 75 rfl)⟩, n_NoRow := (c.eq 76 rfl), i_NoRow := (c.eq 77 rfl), tI_NoRow := (c.eq 78 rfl), FI_NoRow := FI_NoRow, bI_NoRow := FI_NoRow.binds (ps := ["self", "at"]) fun _ _ _ _ _ _ us hl => match us, hl with | [_, _], _ => rfl,
    y_NoRow_NoPlace := (c.eq 79 rfl),
    y_NoRow_NoRow := (c.eq 80 rfl),
    y_NoRow_NoShape := (c.eq 81 rfl),
    fI_NoShape := (He.ma K (He.ga K "NoShape") "__init__"), fdI_NoShape := fdI_NoShape, o_NoShape := ⟨excB_ok (c.fact 83 rfl), (c.eq 84 rfl), (c.eq 82 rfl), (c.eq 85 rfl), (c.fact 86 rfl)⟩, e_NoShape := ⟨(c.eq 87 rfl), (c.eq 88 rfl), (c.eq 82 rfl), (c.fact 89 rfl), (c.eq 90 rfl), (c.eq 91 rfl), (c.eq 92 rfl), (c.eq 93 rfl)⟩, n_NoShape := (c.eq 94 rfl), i_NoShape := (c.eq 95 rfl), tI_NoShape := (c.eq 96 rfl), FI_NoShape := FI_NoShape, bI_NoShape := FI_NoShape.binds (ps := ["self", "shape"]) fun _ _ _ _ _ _ us hl => match us, hl with | [_, _], _ => rfl,
    y_NoShape_NoPlace := (c.eq 97 rfl),
    y_NoShape_NoRow := (c.eq 98 rfl),
    y_NoShape_NoShape := (c.eq 99 rfl),
    b_all := PySem.W.mg_none_of X G (c.eq 100 rfl),
    b_bool := PySem.W.mg_none_of X G (c.eq 101 rfl),
    b_divmod := PySem.W.mg_none_of X G (c.eq 102 rfl),
    b_enumerate := PySem.W.mg_none_of X G (c.eq 103 rfl),
    b_int := PySem.W.mg_none_of X G (c.eq 104 rfl),
    b_isinstance := PySem.W.mg_none_of X G (c.eq 105 rfl),
    b_len := PySem.W.mg_none_of X G (c.eq 106 rfl),
    b_list := PySem.W.mg_none_of X G (c.eq 107 rfl),
    b_max := PySem.W.mg_none_of X G (c.eq 108 rfl),
    b_min := PySem.W.mg_none_of X G (c.eq 109 rfl),
    b_range := PySem.W.mg_none_of X G (c.eq 110 rfl),
    b_sorted := PySem.W.mg_none_of X G (c.eq 111 rfl),
    b_sum := PySem.W.mg_none_of X G (c.eq 112 rfl),
    b_tuple := PySem.W.mg_none_of X G (c.eq 113 rfl),
    b_zip := PySem.W.mg_none_of X G (c.eq 114 rfl) }
  have e := hfa.symm.trans T.g_law
  cases e
  have b := FunD.bindsA (ps := ["script"]) FD_law fun _ _ _ _ _ _ us hl => match us, hl with | [_], _ => rfl
  exact ⟨fd_law, fun s v => b s [v] rfl, fun base _ _ => ok_law T⟩
end Lw
open PySem PySem.W PyProof.Rows
set_option maxRecDepth 100000 in
set_option maxHeartbeats 0 in
theorem PySem.Challenge.cw_sherdhall_k11_whole_one_number_changed_holds : PySem.Challenge.rw_sherdhall_k11_whole_one_number_changed.Holds := by
  w_on; o_law
  refine HandSHeadRun.head_any (r := OpenLaw.row PySem.Challenge.rw_sherdhall_k11_whole_one_number_changed) (q := view (OpenLaw.row PySem.Challenge.rw_sherdhall_k11_whole_one_number_changed).prog [46]) (H := Lw.hkL) (ob := Lw.obL) (M := 40000) (loose := Lw.loL) (d := HandSHeadRun.topDef (OpenLaw.row PySem.Challenge.rw_sherdhall_k11_whole_one_number_changed).prog 46) (kwd := []) Lw.obL_eq
    (by kernel_rfl) (fun s => by kernel_rfl) Lw.runL (by kernel_rfl) (by kernel_rfl) (by kernel_rfl) (by rfl) (by first | assumption | decide +kernel) (by decide +kernel) ⟨rfl, rfl, rfl, rfl, rfl, by decide +kernel⟩ ?hw ?hc
  case hw => w_witness2
  case hc =>
    refine Sh.walk_ofY (l := PySem.Challenge.rw_sherdhall_k11_whole_one_number_changed) (n := 63) (k := 13) (x := "script") (CX := fun w => L2.CX PySem.Challenge.rw_sherdhall_k11_whole_one_number_changed.prog w) rfl (by decide) (by kernel_rfl) ⟨rfl, by decide, by decide⟩ ?F (fun w H s e s' h => Sh.law_cx h)
    intro w mg fa h Y G hmg0
    obtain ⟨K, KX, c⟩ := Y
    have hmg : mg ("law" : PySem.Str) = some (.ref fa) := by
      have e : (HandSHeadRun.topDef (OpenLaw.row PySem.Challenge.rw_sherdhall_k11_whole_one_number_changed).prog 46).name = ("law" : PySem.Str) := by kernel_rfl
      rw [← e]
      exact hmg0
    obtain ⟨fd, hb, hF⟩ := Lw.all_mk (P := (PySem.Challenge.rw_sherdhall_k11_whole_one_number_changed).prog) (w := w) KX G hmg c
    exact ⟨K, fd, Sh.SpD K Lw.fd_law, KX, hb, fun H a ns hl hbt hO hS => Sh.law_in rfl (fun ns _ _ => Lw.dom_law ns) Lw.cost_law (fun _ _ q => q) (fun _ _ _ q => q) hl hbt hO hS, hF⟩

