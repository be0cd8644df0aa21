import PyProof.Rows.All
import Wide.All
import OpenK.AllK
import Wide.FinOn
import HandS.ForMost
import HandS.Exc
import HandS.Wide
import HandS.WideBits
import HandS.Defaults
import HandS.ExcOwn
import HandS.IsInst
import HandS.EndBits
import HandS.Deep
import HandS.Zip
import HandS.TupAny
import KE.KUnpackStar
import KE.KTupSum
import HandS.Conv
import HandS.Flow
import HandS.Style
import HandS.TryOnly
import HandS.DictComp
import HandS.ExcInit
import HandS.ExcIs
import HandS.ExcField
import KE.KExcIs
import HandS.Set
import HandS.SetBool
import HandS.Strs
import HandS.More
import KE.KStateDown
import HandS.Head0
import HandS.Head1
import HandS.Head2
import HandS.HeadEnd
import HandS.HeadHook1
import HandS.HeadHook2
import HandS.SortInts
import HandS.Iter
import HandS.Finally
import HandS.WordsDict
import HandS.Codes
import HandS.OwnEq
import HandS.SetFor
import HandS.SetKeys
import PySem.Challenge.RW_sherdhall_k14_the_rest_of_a_group
set_option Elab.async false
set_option linter.all false
set_option maxRecDepth 100000
set_option autoImplicit false
set_option maxHeartbeats 4000000
/-! Sh1: data trees, what a value stands for, the state of a def by data. -/
namespace Sh
open PySem PySem.Spec PyProof.Rows L2

inductive D where
  | non | bl (b : Bool) | int (i : Int) | str (s : Str)
  | lst (xs : List D) | tup (xs : List D)
  | dct (kvs : List (Key × D)) | dtt (kvs : List (List Key × D))
  | ins (C : Addr) (fs : List (Str × D)) | exc (C : Addr) (fs : List (Str × D))
  | purse | scr (ns : List Int) | ref (a : Addr) | ty (n : String)

/-- the three numbers of a source of draws -/
def PGood (n : Nat) (x y z : Int) : Prop := 0 ≤ z ∧ z ≤ n ∧ y.natAbs < 2 ^ 256
def PurseO (a : Addr) (n : Nat) : HO := .ext fun h => ∃ x y z : Int, PGood n x y z ∧ ∃ (its : List Value) (m : Nat), Vals [.int x, .int y, .int z] its ∧ h.get? a = some { cls := .type "list", data := .seq its.toArray m }
theorem purse_ext (a : Addr) (n : Nat) : ∃ φ, PurseO a n = .ext φ := ⟨_, rfl⟩

/-- the script: read alone -/
def ScrL (K : PySem.W.Frag) (H : Hp) (a : Addr) (xs : List V) : Prop := (∃ o, H a = some (.frz o (.lst xs))) ∨
    ∃ (o : Obj) (its : Array Value) (n : Nat), K.lookup a = some o ∧ o.cls = .type "list" ∧ o.dict = none ∧ o.data = .seq its n ∧ its.size ≤ sizeLine ∧ Vals xs its.toList
theorem ScrL.sq {K : PySem.W.Frag} {H : Hp} {a : Addr} {xs : List V} (h : ScrL K H a xs) : SqL K H a xs := by
  rcases h with h | h
  · exact .inl (.inr h)
  · exact .inr h
mutual
inductive Rp (K : PySem.W.Frag) (H : Hp) : V → D → Prop
  | non : Rp K H .non .non
  | bl (b : Bool) : Rp K H (.bl b) (.bl b)
  | int (i : Int) : Rp K H (.int i) (.int i)
  | str (s : Str) : Rp K H (.str s) (.str s)
  | lst {a : Addr} {vs : List V} {ds : List D} : H a = some (.lst vs) → RpA K H vs ds → Rp K H (.ref a) (.lst ds)
  | scr {a : Addr} {ns : List Int} : ScrL K H a (ns.map V.int) → Rp K H (.ref a) (.scr ns)
  | tup {a : Addr} {vs : List V} {ds : List D} : SqT K H a vs → RpA K H vs ds → Rp K H (.ref a) (.tup ds)
  | dct {a : Addr} {kvs : List (Key × V)} {kds : List (Key × D)} : Rd H a (.dK kvs) → RpK K H kvs kds → Rp K H (.ref a) (.dct kds)
  | dtt {a : Addr} {kvs : List (List Key × V)} {kds : List (List Key × D)} : H a = some (.dT kvs) → RpT K H kvs kds → Rp K H (.ref a) (.dtt kds)
  | ins {a C dx : Addr} {fs : List (Str × V)} {ds : List (Str × D)} : H a = some (.ins C dx fs) → RpF K H fs ds → Rp K H (.ref a) (.ins C ds)
  | exc {a C dd : Addr} {oe : Obj} {u : HO} {fs : List (Str × V)} {ds : List (Str × D)} : (H a = some (.frz oe u) ∧ ∃ φ, u = .ext φ) → Zc (.ref C) (some dd) oe → (∃ vs, oe.data = .fields vs) → H dd = some (.xd fs) → RpF K H fs ds → Rp K H (.ref a) (.exc C ds)
  | purse {a : Addr} {n : Nat} : H a = some (PurseO a n) → Rp K H (.ref a) .purse
  | ref (a : Addr) : Rp K H (.ref a) (.ref a)
  | ty (n : String) : Rp K H (.ty n) (.ty n)
inductive RpA (K : PySem.W.Frag) (H : Hp) : List V → List D → Prop
  | nil : RpA K H [] []
  | cons {v : V} {d : D} {vs : List V} {ds : List D} : Rp K H v d → RpA K H vs ds → RpA K H (v :: vs) (d :: ds)
inductive RpK (K : PySem.W.Frag) (H : Hp) : List (Key × V) → List (Key × D) → Prop
  | nil : RpK K H [] []
  | cons {k : Key} {v : V} {d : D} {vs : List (Key × V)} {ds : List (Key × D)} : Rp K H v d → RpK K H vs ds → RpK K H ((k, v) :: vs) ((k, d) :: ds)
inductive RpT (K : PySem.W.Frag) (H : Hp) : List (List Key × V) → List (List Key × D) → Prop
  | nil : RpT K H [] []
  | cons {k : List Key} {v : V} {d : D} {vs : List (List Key × V)} {ds : List (List Key × D)} : Rp K H v d → RpT K H vs ds → RpT K H ((k, v) :: vs) ((k, d) :: ds)
inductive RpF (K : PySem.W.Frag) (H : Hp) : List (Str × V) → List (Str × D) → Prop
  | nil : RpF K H [] []
  | cons {k : Str} {v : V} {d : D} {vs : List (Str × V)} {ds : List (Str × D)} : Rp K H v d → RpF K H vs ds → RpF K H ((k, v) :: vs) ((k, d) :: ds)
end

/-- all that is known but sources of draws stays; these stay such -/
structure Kp (H H' : Hp) : Prop where
  keep : ∀ a o, H a = some o → (∀ φ, o ≠ .ext φ) → H' a = some o
  pz : ∀ a n, H a = some (PurseO a n) → ∃ m, H' a = some (PurseO a m)
theorem Kp.refl (H : Hp) : Kp H H := ⟨fun _ _ h _ => h, fun a n h => ⟨n, h⟩⟩
theorem Kp.trans {H H1 H2 : Hp} (a : Kp H H1) (b : Kp H1 H2) : Kp H H2 :=
  ⟨fun x o h n => b.keep x o (a.keep x o h n) n, fun x n h => let ⟨_, q⟩ := a.pz x n h; b.pz x _ q⟩
theorem Kp.sub {H H' : Hp} (h : ∀ a o, H a = some o → H' a = some o) : Kp H H' := ⟨fun a o e _ => h a o e, fun a n e => ⟨n, h a _ e⟩⟩
theorem Kp.seqL {K : PySem.W.Frag} {H H' : Hp} {a : Addr} {vs : List V} (e : Kp H H') (h : SqL K H a vs) : SqL K H' a vs := by
  rcases h with (h | ⟨o, h⟩) | h
  · exact .inl (.inl (e.keep _ _ h fun _ z => nomatch z))
  · exact .inl (.inr ⟨o, e.keep _ _ h fun _ z => nomatch z⟩)
  · exact .inr h
theorem Kp.seqT {K : PySem.W.Frag} {H H' : Hp} {a : Addr} {vs : List V} (e : Kp H H') (h : SqT K H a vs) : SqT K H' a vs := by
  rcases h with (h | ⟨o, h⟩) | h
  · exact .inl (.inl (e.keep _ _ h fun _ z => nomatch z))
  · exact .inl (.inr ⟨o, e.keep _ _ h fun _ z => nomatch z⟩)
  · exact .inr h
theorem Kp.rd {H H' : Hp} {a : Addr} {o : HO} (e : Kp H H') (n : ∀ φ, o ≠ .ext φ) (h : Rd H a o) : Rd H' a o := by
  rcases h with h | ⟨ob, h⟩
  · exact .inl (e.keep _ _ h n)
  · exact .inr ⟨ob, e.keep _ _ h fun _ z => nomatch z⟩
theorem Kp.rdK {H H' : Hp} {a : Addr} {kvs : List (Key × V)} (e : Kp H H') (h : Rd H a (.dK kvs)) : Rd H' a (.dK kvs) := e.rd (fun _ z => by cases z) h
theorem Kp.rdT {H H' : Hp} {a : Addr} {kvs : List (List Key × V)} (e : Kp H H') (h : Rd H a (.dT kvs)) : Rd H' a (.dT kvs) := e.rd (fun _ z => by cases z) h
theorem Kp.scr {K : PySem.W.Frag} {H H' : Hp} {a : Addr} {vs : List V} (e : Kp H H') (h : ScrL K H a vs) : ScrL K H' a vs := by
  rcases h with ⟨o, h⟩ | h
  · exact .inl ⟨o, e.keep _ _ h fun _ z => nomatch z⟩
  · exact .inr h
section
variable {K : PySem.W.Frag} {H H' : Hp}
mutual
theorem Rp.mono (e : Kp H H') : ∀ {v : V} {d : D}, Rp K H v d → Rp K H' v d
  | _, _, .non => .non
  | _, _, .bl b => .bl b
  | _, _, .int i => .int i
  | _, _, .str i => .str i
  | _, _, .lst h q => .lst (e.keep _ _ h fun _ z => nomatch z) (RpA.mono e q)
  | _, _, .scr h => .scr (e.scr h)
  | _, _, .tup h q => .tup (e.seqT h) (RpA.mono e q)
  | _, _, .dct h q => .dct (e.rdK h) (RpK.mono e q)
  | _, _, .dtt h q => .dtt (e.keep _ _ h fun _ z => nomatch z) (RpT.mono e q)
  | _, _, .ins h q => .ins (e.keep _ _ h fun _ z => nomatch z) (RpF.mono e q)
  | _, _, .exc h z d x q => .exc ⟨e.keep _ _ h.1 (fun _ z => nomatch z), h.2⟩ z d (e.keep _ _ x fun _ z => nomatch z) (RpF.mono e q)
  | _, _, .purse h => let ⟨_, q⟩ := e.pz _ _ h; .purse q
  | _, _, .ref a => .ref a
  | _, _, .ty a => .ty a
theorem RpA.mono (e : Kp H H') : ∀ {v : List V} {d : List D}, RpA K H v d → RpA K H' v d
  | _, _, .nil => .nil
  | _, _, .cons h q => .cons (Rp.mono e h) (RpA.mono e q)
theorem RpK.mono (e : Kp H H') : ∀ {v : List (Key × V)} {d : List (Key × D)}, RpK K H v d → RpK K H' v d
  | _, _, .nil => .nil
  | _, _, .cons h q => .cons (Rp.mono e h) (RpK.mono e q)
theorem RpT.mono (e : Kp H H') : ∀ {v : List (List Key × V)} {d : List (List Key × D)}, RpT K H v d → RpT K H' v d
  | _, _, .nil => .nil
  | _, _, .cons h q => .cons (Rp.mono e h) (RpT.mono e q)
theorem RpF.mono (e : Kp H H') : ∀ {v : List (Str × V)} {d : List (Str × D)}, RpF K H v d → RpF K H' v d
  | _, _, .nil => .nil
  | _, _, .cons h q => .cons (Rp.mono e h) (RpF.mono e q)
end
end
theorem RpA.length {K : PySem.W.Frag} {H : Hp} : ∀ {vs : List V} {ds : List D}, RpA K H vs ds → vs.length = ds.length
  | _, _, .nil => rfl
  | _, _, .cons _ q => congrArg (· + 1) (RpA.length q)
theorem RpA.get {K : PySem.W.Frag} {H : Hp} : ∀ {vs : List V} {ds : List D} {i : Nat} {v : V}, RpA K H vs ds → vs[i]? = some v → ∃ d, ds[i]? = some d ∧ Rp K H v d
  | _, _, i, v, .nil, h => by simp at h
  | _, _, 0, v, .cons p q, h => by simp at h; subst h; exact ⟨_, rfl, p⟩
  | _, _, i + 1, v, .cons p q, h => by
    obtain ⟨d, e, r⟩ := RpA.get (i := i) (v := v) q (by simpa using h)
    exact ⟨d, by simpa using e, r⟩
theorem RpA.getD {K : PySem.W.Frag} {H : Hp} : ∀ {vs : List V} {ds : List D} {i : Nat} {d : D}, RpA K H vs ds → ds[i]? = some d → ∃ v, vs[i]? = some v ∧ Rp K H v d
  | _, _, i, v, .nil, h => by simp at h
  | _, _, 0, v, .cons p q, h => by simp at h; subst h; exact ⟨_, rfl, p⟩
  | _, _, i + 1, v, .cons p q, h => by
    obtain ⟨d, e, r⟩ := RpA.getD (i := i) (d := v) q (by simpa using h)
    exact ⟨d, by simpa using e, r⟩
theorem RpA.append {K : PySem.W.Frag} {H : Hp} : ∀ {vs ws : List V} {ds es : List D}, RpA K H vs ds → RpA K H ws es → RpA K H (vs ++ ws) (ds ++ es)
  | _, _, _, _, .nil, r => r
  | _, _, _, _, .cons p q, r => .cons p (RpA.append q r)
theorem RpA.take {K : PySem.W.Frag} {H : Hp} : ∀ {vs : List V} {ds : List D} (n : Nat), RpA K H vs ds → RpA K H (vs.take n) (ds.take n)
  | _, _, 0, _ => .nil
  | _, _, _ + 1, .nil => .nil
  | _, _, n + 1, .cons p q => .cons p (RpA.take n q)
theorem RpA.drop {K : PySem.W.Frag} {H : Hp} : ∀ {vs : List V} {ds : List D} (n : Nat), RpA K H vs ds → RpA K H (vs.drop n) (ds.drop n)
  | _, _, 0, r => r
  | _, _, _ + 1, .nil => .nil
  | _, _, n + 1, .cons p q => RpA.drop n q
theorem RpA.set {K : PySem.W.Frag} {H : Hp} {x : V} {y : D} (h : Rp K H x y) : ∀ {vs : List V} {ds : List D} (n : Nat), RpA K H vs ds → RpA K H (vs.set n x) (ds.set n y)
  | _, _, _, .nil => .nil
  | _, _, 0, .cons p q => .cons h q
  | _, _, n + 1, .cons p q => .cons p (RpA.set h n q)
theorem RpA.ints {K : PySem.W.Frag} {H : Hp} : ∀ {vs : List V} {ns : List Int}, RpA K H vs (ns.map D.int) → vs = ns.map V.int
  | _, [], .nil => rfl
  | _, n :: ns, .cons p q => by
    cases p
    rw [List.map_cons, RpA.ints q]
theorem RpA.of_ints {K : PySem.W.Frag} {H : Hp} : ∀ {ns : List Int}, RpA K H (ns.map V.int) (ns.map D.int)
  | [] => .nil
  | n :: ns => .cons (.int n) RpA.of_ints
theorem RpA.bools {K : PySem.W.Frag} {H : Hp} : ∀ {vs : List V} {ns : List Bool}, RpA K H vs (ns.map D.bl) → vs = ns.map V.bl
  | _, [], .nil => rfl
  | _, n :: ns, .cons p q => by
    cases p
    rw [List.map_cons, RpA.bools q]
theorem RpA.strs {K : PySem.W.Frag} {H : Hp} : ∀ {vs : List V} {ns : List Str}, RpA K H vs (ns.map D.str) → vs = ns.map V.str
  | _, [], .nil => rfl
  | _, n :: ns, .cons p q => by
    cases p
    rw [List.map_cons, RpA.strs q]

/-! ### masks -/
open Classical in
noncomputable def msk (M : Addr → Prop) (H : Hp) : Hp := fun a => if M a then none else H a
theorem msk_of {M : Addr → Prop} {H : Hp} {a : Addr} {o : HO} (h : msk M H a = some o) : ¬ M a ∧ H a = some o := by
  unfold msk at h
  split at h
  · cases h
  · exact ⟨by assumption, h⟩
theorem rd_of {M : Addr → Prop} {H : Hp} {a : Addr} {o : HO} (h : Rd (msk M H) a o) : ¬ M a ∧ Rd H a o := by
  rcases h with h | ⟨ob, h⟩
  · exact ⟨(msk_of h).1, .inl (msk_of h).2⟩
  · exact ⟨(msk_of h).1, .inr ⟨ob, (msk_of h).2⟩⟩
theorem msk_no {M : Addr → Prop} {H : Hp} {a : Addr} (h : ¬ M a) : msk M H a = H a := by
  unfold msk
  rw [if_neg h]
theorem msk_mono {M : Addr → Prop} {H H' : Hp} (e : Kp H H') : Kp (msk M H) (msk M H') :=
  ⟨fun a o h n => by
    obtain ⟨h1, h2⟩ := msk_of h
    rw [msk_no h1]
    exact e.keep a o h2 n, fun a n h => by
    obtain ⟨h1, h2⟩ := msk_of h
    obtain ⟨m, q⟩ := e.pz a n h2
    exact ⟨m, by rw [msk_no h1]; exact q⟩⟩
theorem msk_sub {M M' : Addr → Prop} {H : Hp} (e : ∀ a, M a → M' a) : Kp (msk M' H) (msk M H) := Kp.sub fun a o h => by
  obtain ⟨h1, h2⟩ := msk_of h
  rw [msk_no fun z => h1 (e a z)]
  exact h2
theorem msk_all {M : Addr → Prop} {H : Hp} : Kp (msk M H) H := Kp.sub fun a o h => (msk_of h).2
/-- a change at a masked place -/
theorem msk_upd {M : Addr → Prop} {H : Hp} {a : Addr} {o : HO} (h : M a) : msk M (upd H a o) = msk M H := by
  funext b
  unfold msk
  by_cases hb : M b
  · rw [if_pos hb, if_pos hb]
  · rw [if_neg hb, if_neg hb, upd_ne (fun z => hb (by rw [z]; exact h))]

/-! ### sources of draws, how often they may be asked -/
def LIM : Nat := 2 ^ 60
def Pz (n : Nat) (H : Hp) : Prop := ∀ a φ, H a = some (.ext φ) → ∃ m, m ≤ n ∧ HO.ext φ = PurseO a m
def Lim (b : Nat) (H : Hp) : Prop := ∃ n, Pz n H ∧ n + b ≤ LIM
theorem Lim.mono {b b' : Nat} {H : Hp} (h : Lim b H) (hb : b' ≤ b) : Lim b' H := let ⟨n, p, q⟩ := h; ⟨n, p, by omega⟩
theorem Pz.upd {n : Nat} {H : Hp} {a : Addr} {o : HO} (h : Pz n H) (ho : ∀ φ, o ≠ .ext φ) : Pz n (upd H a o) := fun b φ e => by
  by_cases hb : b = a
  · subst hb
    rw [upd_same] at e
    exact absurd (Option.some.inj e) (ho φ)
  · rw [upd_ne hb] at e
    exact h b φ e
theorem Lim.upd {b : Nat} {H : Hp} {a : Addr} {o : HO} (h : Lim b H) (ho : ∀ φ, o ≠ .ext φ) : Lim b (upd H a o) := let ⟨n, p, q⟩ := h; ⟨n, p.upd ho, q⟩

/-- what a call leaves -/
structure Ext (H H' : Hp) : Prop extends Kp H H' where
  dom : ∀ a, H a ≠ none → H' a ≠ none
theorem Ext.refl (H : Hp) : Ext H H := ⟨Kp.refl H, fun _ h => h⟩
theorem Ext.trans {H H1 H2 : Hp} (a : Ext H H1) (b : Ext H1 H2) : Ext H H2 := ⟨a.toKp.trans b.toKp, fun x h => b.dom x (a.dom x h)⟩
theorem Ext.free {H H' : Hp} (e : Ext H H') {a : Addr} (h : H' a = none) : H a = none := by
  cases q : H a with
  | none => rfl
  | some o => exact absurd h (e.dom a (by rw [q]; exact fun z => nomatch z))
theorem Ext.new {H : Hp} {p : Addr} {o : HO} (h : H p = none) : Ext H (upd H p o) := ⟨Kp.sub fun a u e => by
    rw [upd_ne (ne_of_none e h)]
    exact e, fun a ha => by
    by_cases hb : a = p
    · rw [hb] at ha
      exact absurd h ha
    · rw [upd_ne hb]
      exact ha⟩
/-- what the entry did not know may change -/
theorem Ext.mut {H H' : Hp} {p : Addr} {o : HO} (e : Ext H H') (h : H p = none) : Ext H (upd H' p o) := ⟨⟨fun a u ha n => by
    rw [upd_ne (ne_of_none ha h)]
    exact e.keep a u ha n, fun a n ha => by
    rw [upd_ne (ne_of_none ha h)]
    exact e.pz a n ha⟩, fun a ha => by
    by_cases hb : a = p
    · rw [hb] at ha
      exact absurd h ha
    · rw [upd_ne hb]
      exact e.dom a ha⟩

/-! ### trees of objects that nothing else knows -/
inductive Nd where
  | lst | dct (ks : List Key) | dtt (ks : List (List Key)) | ins (C : Addr) (ks : List Str)
def Nd.ho : Nd → List V → HO → Prop
  | .lst, vs, o => o = .lst vs
  | .dct ks, vs, o => ks.length = vs.length ∧ o = .dK (ks.zip vs)
  | .dtt ks, vs, o => ks.length = vs.length ∧ o = .dT (ks.zip vs)
  | .ins C ks, vs, o => ks.length = vs.length ∧ ∃ dx, o = .ins C dx (ks.zip vs)
def Nd.d : Nd → List D → D
  | .lst, ds => .lst ds
  | .dct ks, ds => .dct (ks.zip ds)
  | .dtt ks, ds => .dtt (ks.zip ds)
  | .ins C ks, ds => .ins C (ks.zip ds)
theorem Nd.noext {n : Nd} {vs : List V} {o : HO} (h : n.ho vs o) : ∀ φ, o ≠ .ext φ := by
  cases n with
  | lst => intro φ z; rw [show o = _ from h] at z; cases z
  | dct ks => intro φ z; rw [show o = _ from h.2] at z; cases z
  | dtt ks => intro φ z; rw [show o = _ from h.2] at z; cases z
  | ins C ks => intro φ z; obtain ⟨_, dx, h⟩ := h; rw [h] at z; cases z
section
variable {K : PySem.W.Frag} {H : Hp}
theorem rpk_zip : ∀ {ks : List Key} {vs : List V} {ds : List D}, RpA K H vs ds → RpK K H (ks.zip vs) (ks.zip ds)
  | [], _, _, _ => by simp; exact .nil
  | k :: ks, _, _, .nil => by simp; exact .nil
  | k :: ks, _, _, .cons p q => .cons p (rpk_zip q)
theorem rpt_zip : ∀ {ks : List (List Key)} {vs : List V} {ds : List D}, RpA K H vs ds → RpT K H (ks.zip vs) (ks.zip ds)
  | [], _, _, _ => by simp; exact .nil
  | k :: ks, _, _, .nil => by simp; exact .nil
  | k :: ks, _, _, .cons p q => .cons p (rpt_zip q)
theorem rpf_zip : ∀ {ks : List Str} {vs : List V} {ds : List D}, RpA K H vs ds → RpF K H (ks.zip vs) (ks.zip ds)
  | [], _, _, _ => by simp; exact .nil
  | k :: ks, _, _, .nil => by simp; exact .nil
  | k :: ks, _, _, .cons p q => .cons p (rpf_zip q)
theorem Nd.rp {n : Nd} {a : Addr} {o : HO} {vs : List V} {ds : List D} (ha : H a = some o) (h : n.ho vs o) (r : RpA K H vs ds) : Rp K H (.ref a) (n.d ds) := by
  cases n with
  | lst => rw [show o = _ from h] at ha; exact .lst ha r
  | dct ks => rw [show o = _ from h.2] at ha; exact .dct (.inl ha) (rpk_zip r)
  | dtt ks => rw [show o = _ from h.2] at ha; exact .dtt ha (rpt_zip r)
  | ins C ks => obtain ⟨_, dx, h⟩ := h; rw [h] at ha; exact .ins ha (rpf_zip r)
end
inductive Tree where
  | leaf (d : D) | node (n : Nd) (ts : List Tree)
mutual
def Tree.d : Tree → D
  | .leaf d => d
  | .node n ts => n.d (Tree.dL ts)
def Tree.dL : List Tree → List D
  | [] => []
  | t :: ts => t.d :: Tree.dL ts
end
mutual
/-- v is such a tree, its own objects at F; the leaves lie outside M -/
inductive Tr (K : PySem.W.Frag) (M : Addr → Prop) (H : Hp) : V → Tree → List Addr → Prop
  | leaf {v : V} {d : D} : Rp K (msk M H) v d → Tr K M H v (.leaf d) []
  | node {a : Addr} {o : HO} {n : Nd} {vs : List V} {ts : List Tree} {F : List Addr} : H a = some o → n.ho vs o → TrL K M H vs ts F → Tr K M H (.ref a) (.node n ts) (a :: F)
inductive TrL (K : PySem.W.Frag) (M : Addr → Prop) (H : Hp) : List V → List Tree → List Addr → Prop
  | nil : TrL K M H [] [] []
  | cons {v : V} {t : Tree} {vs : List V} {ts : List Tree} {F1 F2 : List Addr} : Tr K M H v t F1 → TrL K M H vs ts F2 → TrL K M H (v :: vs) (t :: ts) (F1 ++ F2)
end
section
variable {K : PySem.W.Frag} {M M' : Addr → Prop} {H H' : Hp}
mutual
theorem Tr.chg (k : Kp (msk M H) (msk M' H')) : ∀ {v : V} {t : Tree} {F : List Addr}, Tr K M H v t F → (∀ a ∈ F, ∀ o, H a = some o → (∀ φ, o ≠ .ext φ) → H' a = some o) → Tr K M' H' v t F
  | _, _, _, .leaf r, _ => .leaf (r.mono k)
  | _, _, _, .node ha h q, hF => .node (hF _ List.mem_cons_self _ ha (Nd.noext h)) h (TrL.chg k q fun a m => hF a (List.mem_cons_of_mem _ m))
theorem TrL.chg (k : Kp (msk M H) (msk M' H')) : ∀ {vs : List V} {ts : List Tree} {F : List Addr}, TrL K M H vs ts F → (∀ a ∈ F, ∀ o, H a = some o → (∀ φ, o ≠ .ext φ) → H' a = some o) → TrL K M' H' vs ts F
  | _, _, _, .nil, _ => .nil
  | _, _, _, .cons p q, hF => .cons (Tr.chg k p fun a m => hF a (List.mem_append_left _ m)) (TrL.chg k q fun a m => hF a (List.mem_append_right _ m))
end
mutual
/-- as data -/
theorem Tr.rp (k : Kp (msk M H) (msk M' H')) : ∀ {v : V} {t : Tree} {F : List Addr}, Tr K M H v t F → (∀ a ∈ F, ∀ o, H a = some o → (∀ φ, o ≠ .ext φ) → msk M' H' a = some o) → Rp K (msk M' H') v t.d
  | _, _, _, .leaf r, _ => by unfold Tree.d; exact r.mono k
  | _, _, _, .node ha h q, hF => by unfold Tree.d; exact Nd.rp (hF _ List.mem_cons_self _ ha (Nd.noext h)) h (TrL.rp k q fun a m => hF a (List.mem_cons_of_mem _ m))
theorem TrL.rp (k : Kp (msk M H) (msk M' H')) : ∀ {vs : List V} {ts : List Tree} {F : List Addr}, TrL K M H vs ts F → (∀ a ∈ F, ∀ o, H a = some o → (∀ φ, o ≠ .ext φ) → msk M' H' a = some o) → RpA K (msk M' H') vs (Tree.dL ts)
  | _, _, _, .nil, _ => by unfold Tree.dL; exact .nil
  | _, _, _, .cons p q, hF => by unfold Tree.dL; exact .cons (Tr.rp k p fun a m => hF a (List.mem_append_left _ m)) (TrL.rp k q fun a m => hF a (List.mem_append_right _ m))
end
mutual
theorem Tr.liv : ∀ {v : V} {t : Tree} {F : List Addr}, Tr K M H v t F → ∀ a ∈ F, H a ≠ none
  | _, _, _, .leaf _, a, m => by cases m
  | _, _, _, .node ha h q, a, m => by
    rcases List.mem_cons.mp m with rfl | m
    · rw [ha]; exact fun z => nomatch z
    · exact TrL.liv q a m
theorem TrL.liv : ∀ {vs : List V} {ts : List Tree} {F : List Addr}, TrL K M H vs ts F → ∀ a ∈ F, H a ≠ none
  | _, _, _, .nil, a, m => by cases m
  | _, _, _, .cons p q, a, m => by
    rcases List.mem_append.mp m with m | m
    · exact Tr.liv p a m
    · exact TrL.liv q a m
end
end

/-! ### how deep data is our own -/
def full : Nat → D → Tree
  | 0, d => .leaf d
  | n + 1, .lst xs => .node .lst (xs.map (full n))
  | n + 1, .dct kvs => .node (.dct (kvs.map (·.1))) (kvs.map fun p => full n p.2)
  | n + 1, .dtt kvs => .node (.dtt (kvs.map (·.1))) (kvs.map fun p => full n p.2)
  | n + 1, .ins C fs => .node (.ins C (fs.map (·.1))) (fs.map fun p => full n p.2)
  | _ + 1, d => .leaf d
theorem dL_map {α : Type} (f : α → Tree) : ∀ xs : List α, Tree.dL (xs.map f) = xs.map fun x => (f x).d
  | [] => by simp [Tree.dL]
  | x :: xs => by rw [List.map_cons, Tree.dL, dL_map f xs]; rfl
theorem zip_map' {α β γ : Type} (f : γ → α) (g : γ → β) : ∀ l : List γ, (l.map f).zip (l.map g) = l.map fun x => (f x, g x)
  | [] => rfl
  | x :: l => by simp [zip_map' f g l]
theorem full_d : ∀ (n : Nat) (d : D), (full n d).d = d
  | 0, d => rfl
  | n + 1, .lst xs => by
    show Nd.d .lst (Tree.dL (xs.map (full n))) = _
    rw [dL_map]
    show D.lst _ = D.lst _
    congr 1
    exact (List.map_congr_left fun x _ => full_d n x).trans (List.map_id' xs)
  | n + 1, .dct kvs => by
    show Nd.d (.dct _) (Tree.dL (kvs.map fun p => full n p.2)) = _
    rw [dL_map]
    show D.dct _ = D.dct _
    rw [zip_map']
    congr 1
    exact (List.map_congr_left fun x _ => by rw [full_d n x.2]).trans (List.map_id' kvs)
  | n + 1, .dtt kvs => by
    show Nd.d (.dtt _) (Tree.dL (kvs.map fun p => full n p.2)) = _
    rw [dL_map]
    show D.dtt _ = D.dtt _
    rw [zip_map']
    congr 1
    exact (List.map_congr_left fun x _ => by rw [full_d n x.2]).trans (List.map_id' kvs)
  | n + 1, .ins C fs => by
    show Nd.d (.ins C _) (Tree.dL (fs.map fun p => full n p.2)) = _
    rw [dL_map]
    show D.ins C _ = D.ins C _
    rw [zip_map']
    congr 1
    exact (List.map_congr_left fun x _ => by rw [full_d n x.2]).trans (List.map_id' fs)
  | _ + 1, .non => rfl
  | _ + 1, .bl _ => rfl
  | _ + 1, .int _ => rfl
  | _ + 1, .str _ => rfl
  | _ + 1, .tup _ => rfl
  | _ + 1, .exc _ _ => rfl
  | _ + 1, .purse => rfl
  | _ + 1, .scr _ => rfl
  | _ + 1, .ref _ => rfl
  | _ + 1, .ty _ => rfl
/-! ### slots by data -/
inductive Sd where
  | un | dat (d : D) | own (ds : List D) | tre (t : Tree) (F : List Addr) | par (a : Addr) (ds : List D) | fix (v : V) (d : D)
def isOwn : Sd → Bool
  | .own _ => true
  | .tre _ _ => true
  | .par _ _ => true
  | _ => false
/-- the objects that belong to a slot -/
def Sd.adr (s : Option V) : Sd → Addr → Prop
  | .own _, a => s = some (.ref a)
  | .par _ _, a => s = some (.ref a)
  | .tre _ F, a => a ∈ F
  | _, _ => False
theorem adr_own {s : Option V} {e : Sd} {a : Addr} (h : e.adr s a) : isOwn e = true := by
  cases e <;> first | rfl | cases h
def At (σ : List (Option V)) (ds : List Sd) (i : Nat) (a : Addr) : Prop := ∃ s e, σ[i]? = some s ∧ ds[i]? = some e ∧ e.adr s a
def SlOk (K : PySem.W.Frag) (M : Addr → Prop) (H : Hp) (s : Option V) : Sd → Prop
  | .un => True
  | .dat d => ∃ v, s = some v ∧ Rp K (msk M H) v d
  | .own ds => ∃ a vs, s = some (.ref a) ∧ M a ∧ H a = some (.lst vs) ∧ RpA K (msk M H) vs ds
  | .par a ds => ∃ vs, s = some (.ref a) ∧ M a ∧ H a = some (.lst vs) ∧ RpA K (msk M H) vs ds
  | .tre t F => ∃ v, s = some v ∧ (∀ a ∈ F, M a) ∧ F.Nodup ∧ Tr K M H v t F
  | .fix v d => s = some v ∧ Rp K (msk M H) v d
/-- the state of a def at H: entered at H0 with the mask M0; M: what may not be handed on; b: how many draws are left -/
structure Stt (K : PySem.W.Frag) (H0 : Hp) (M0 : Addr → Prop) (gs : List (V × D)) (M : Addr → Prop) (b : Nat) (H : Hp) (σ : List (Option V)) (ds : List Sd) : Prop where
  ext : Ext H0 H
  m0 : ∀ a, M0 a → M a
  new : ∀ a, M a → ¬ M0 a → H0 a = none
  liv : ∀ a, M a → H a ≠ none
  lim : Lim b H
  len : σ.length = ds.length
  sl : ∀ (i : Nat) (s : Option V) (d : Sd), σ[i]? = some s → ds[i]? = some d → SlOk K M H s d
  inj : ∀ (i j : Nat) (a : Addr), At σ ds i a → At σ ds j a → i = j
  ownNew : ∀ (i : Nat) (a : Addr), At σ ds i a → ¬ M0 a
  gh : ∀ q ∈ gs, Rp K (msk M H) q.1 q.2
section
variable {K : PySem.W.Frag} {H0 H H' : Hp} {M0 M M' : Addr → Prop} {b b' : Nat} {σ : List (Option V)} {ds : List Sd} {gs : List (V × D)}
theorem SlOk.m {s : Option V} {e : Sd} {a : Addr} (h : SlOk K M H s e) (q : e.adr s a) : M a := by
  cases e with
  | un => cases q
  | dat d => cases q
  | own ds => obtain ⟨a', vs, h1, h2, _⟩ := h; rw [h1] at q; cases q; exact h2
  | par a' ds => obtain ⟨vs, h1, h2, _⟩ := h; rw [h1] at q; cases q; exact h2
  | tre t F => obtain ⟨v, h1, h2, _⟩ := h; exact h2 a q
  | fix v d => cases q
theorem SlOk.chg {s : Option V} {e : Sd} (k : Kp (msk M H) (msk M' H')) (hM : ∀ a, e.adr s a → M a → M' a) (hH : ∀ a o, e.adr s a → H a = some o → (∀ φ, o ≠ .ext φ) → H' a = some o) (h : SlOk K M H s e) : SlOk K M' H' s e := by
  cases e with
  | un => trivial
  | dat d => obtain ⟨v, h1, h2⟩ := h; exact ⟨v, h1, h2.mono k⟩
  | own ds => obtain ⟨a, vs, h1, h2, h3, h4⟩ := h; exact ⟨a, vs, h1, hM a h1 h2, hH a _ h1 h3 (fun _ z => nomatch z), h4.mono k⟩
  | par a ds => obtain ⟨vs, h1, h2, h3, h4⟩ := h; exact ⟨vs, h1, hM a h1 h2, hH a _ h1 h3 (fun _ z => nomatch z), h4.mono k⟩
  | tre t F => obtain ⟨v, h1, h2, h3, h4⟩ := h; exact ⟨v, h1, fun a m => hM a m (h2 a m), h3, h4.chg k fun a m o ho n => hH a o m ho n⟩
  | fix v d => exact ⟨h.1, h.2.mono k⟩
theorem SlOk.mono {s : Option V} {d : Sd} (e : Kp H H') (h : SlOk K M H s d) : SlOk K M H' s d := h.chg (msk_mono e) (fun _ _ q => q) fun a o _ ho n => e.keep a o ho n
theorem at_set {i j : Nat} {s : Option V} {e : Sd} {a : Addr} (h : At (σ.set i s) (ds.set i e) j a) : (j = i ∧ e.adr s a) ∨ (j ≠ i ∧ At σ ds j a) := by
  obtain ⟨s', e', h1, h2, h3⟩ := h
  by_cases hj : i = j
  · subst hj
    have hi : i < σ.length := by simpa using (List.getElem?_eq_some_iff.mp h1).1
    have hi2 : i < ds.length := by simpa using (List.getElem?_eq_some_iff.mp h2).1
    rw [List.getElem?_set_self hi] at h1
    rw [List.getElem?_set_self hi2] at h2
    cases h1
    cases h2
    exact .inl ⟨rfl, h3⟩
  · rw [List.getElem?_set_ne hj] at h1 h2
    exact .inr ⟨Ne.symm hj, s', e', h1, h2, h3⟩
theorem at_setD {i j : Nat} {s : Option V} {e : Sd} {a : Addr} (hs : σ[i]? = some s) (h : At σ (ds.set i e) j a) : (j = i ∧ e.adr s a) ∨ (j ≠ i ∧ At σ ds j a) := by
  have q : σ.set i s = σ := by
    obtain ⟨hi, e⟩ := List.getElem?_eq_some_iff.mp hs
    rw [← e]
    exact List.set_getElem_self hi
  rw [← q] at h
  rcases at_set h with h | ⟨h1, h2⟩
  · exact .inl h
  · exact .inr ⟨h1, h2⟩
theorem Stt.atM (S : Stt K H0 M0 gs M b H σ ds) {i : Nat} {a : Addr} (h : At σ ds i a) : M a := by
  obtain ⟨s, e, h1, h2, h3⟩ := h
  exact (S.sl i s e h1 h2).m h3
/-- behind an expression -/
theorem Stt.step (S : Stt K H0 M0 gs M b H σ ds) (e : Ext H H') (l : Lim b' H') : Stt K H0 M0 gs M b' H' σ ds :=
  ⟨S.ext.trans e, S.m0, S.new, fun a h => e.dom a (S.liv a h), l, S.len, fun i s d h1 h2 => (S.sl i s d h1 h2).mono e.toKp, S.inj, S.ownNew, fun q hq => (S.gh q hq).mono (msk_mono e.toKp)⟩
theorem Stt.weak (S : Stt K H0 M0 gs M b H σ ds) (h : b' ≤ b) : Stt K H0 M0 gs M b' H σ ds := S.step (Ext.refl H) (S.lim.mono h)
theorem Stt.var (S : Stt K H0 M0 gs M b H σ ds) {i : Nat} {d : D} (h : ds[i]? = some (.dat d)) : ∃ v, σ[i]? = some (some v) ∧ Rp K (msk M H) v d := by
  have hi : i < σ.length := by
    rw [S.len]
    exact (List.getElem?_eq_some_iff.mp h).1
  obtain ⟨v, e, r⟩ := S.sl i _ _ (List.getElem?_eq_getElem hi) h
  exact ⟨v, by rw [List.getElem?_eq_getElem hi, e], r⟩
theorem Stt.ownL (S : Stt K H0 M0 gs M b H σ ds) {i : Nat} {xs : List D} (h : ds[i]? = some (.own xs)) : ∃ a vs, σ[i]? = some (some (.ref a)) ∧ M a ∧ H a = some (.lst vs) ∧ RpA K (msk M H) vs xs ∧ ¬ M0 a := by
  have hi : i < σ.length := by
    rw [S.len]
    exact (List.getElem?_eq_some_iff.mp h).1
  obtain ⟨a, vs, e, m, ha, r⟩ := S.sl i _ _ (List.getElem?_eq_getElem hi) h
  have es : σ[i]? = some (some (.ref a)) := by rw [List.getElem?_eq_getElem hi, e]
  exact ⟨a, vs, es, m, ha, r, S.ownNew i a ⟨_, _, es, h, rfl⟩⟩
theorem Stt.parL (S : Stt K H0 M0 gs M b H σ ds) {i : Nat} {a : Addr} {xs : List D} (h : ds[i]? = some (.par a xs)) : ∃ vs, σ[i]? = some (some (.ref a)) ∧ M a ∧ H a = some (.lst vs) ∧ RpA K (msk M H) vs xs ∧ ¬ M0 a := by
  have hi : i < σ.length := by
    rw [S.len]
    exact (List.getElem?_eq_some_iff.mp h).1
  obtain ⟨vs, e, m, ha, r⟩ := S.sl i _ _ (List.getElem?_eq_getElem hi) h
  have es : σ[i]? = some (some (.ref a)) := by rw [List.getElem?_eq_getElem hi, e]
  exact ⟨vs, es, m, ha, r, S.ownNew i a ⟨_, _, es, h, rfl⟩⟩
/-- a slot gets something; what belongs to it -/
theorem Stt.setW (S : Stt K H0 M0 gs M b H σ ds) {i : Nat} {s : Option V} {e : Sd} (ok : SlOk K M H s e) (ho : ∀ a, e.adr s a → False) : Stt K H0 M0 gs M b H (σ.set i s) (ds.set i e) := by
  refine ⟨S.ext, S.m0, S.new, S.liv, S.lim, by rw [List.length_set, List.length_set, S.len], fun j s' e' h1 h2 => ?_, fun j k a h1 h2 => ?_, fun j a h1 => ?_, S.gh⟩
  · by_cases hj : i = j
    · subst hj
      have hi : i < σ.length := by simpa using (List.getElem?_eq_some_iff.mp h1).1
      rw [List.getElem?_set_self hi] at h1
      rw [List.getElem?_set_self (by rw [← S.len]; exact hi)] at h2
      cases h1
      cases h2
      exact ok
    · rw [List.getElem?_set_ne hj] at h1 h2
      exact S.sl j s' e' h1 h2
  · rcases at_set h1 with ⟨_, h1⟩ | ⟨_, h1⟩
    · exact (ho a h1).elim
    · rcases at_set h2 with ⟨_, h2⟩ | ⟨_, h2⟩
      · exact (ho a h2).elim
      · exact S.inj j k a h1 h2
  · rcases at_set h1 with ⟨_, h1⟩ | ⟨_, h1⟩
    · exact (ho a h1).elim
    · exact S.ownNew j a h1
/-- a slot gets data -/
theorem Stt.set (S : Stt K H0 M0 gs M b H σ ds) {i : Nat} {v : V} {d : D} (r : Rp K (msk M H) v d) : Stt K H0 M0 gs M b H (σ.set i (some v)) (ds.set i (.dat d)) := S.setW ⟨v, rfl, r⟩ fun _ z => z
/-- a slot is forgotten -/
theorem Stt.forget (S : Stt K H0 M0 gs M b H σ ds) (i : Nat) (s : Option V) : Stt K H0 M0 gs M b H (σ.set i s) (ds.set i .un) := S.setW trivial fun _ z => z
end
end Sh

/-! Sh2: further rules over HandS: powers of great numbers, calls with keywords whose errors are wished for at the slots, operators of several kinds at once. -/
namespace Sh
open PySem PySem.Spec PyProof.Rows L2

/-! ### arithmetic of any size -/
def CPowW (i j : Int) : Prop := 0 ≤ j ∧ (Builtin.Int.intBits i : Int) * j ≤ 2 ^ 27
section
variable {X : Cx}
theorem op_powW : OpR X (binaryOp .Pow) (rI CPowW fun i j => .int (i ^ j.toNat)) := opI fun _ _ _ _ _ _ _ hc q => pow_int hc.1 hc.2 q
theorem op_and' {r : R2} {f : Value → Value → Sem Value} (h : OpR X f r) : OpR X f r := h
end

/-! ### calls -/
/-- how n positional values and keywords ks are bound -/
structure Kb (K : PySem.W.Frag) (fd : FuncData) (ps : List Str) (n : Nat) (ks : List Str) (gV : List V → List V → List V) : Prop where
  to : ∀ (s : Shared) (us ws : List Value) (vs zs : List V), K.In s.heap → Vals vs us → Vals zs ws → vs.length = n → zs.length = ks.length → ∃ xs, Vals (gV vs zs) xs ∧ BindsTo s fd ⟨us, ks.zip ws⟩ (ps.zip xs)
def tCl (n m : Nat) (sp : Sp) (gV : List V → List V → List V) (E : L2.St → XK) (t tk : TA) : TE := fun σ H Q => t σ H fun vs H1 => tk σ H1 fun zs H2 => vs.length = n ∧ zs.length = m ∧ sp (gV vs zs) H2 Q (E σ)
section
variable {X : Cx} {CX : CXT} {k n m : Nat} {f : Addr} {fd : FuncData} {ps ks : List Str} {sp : Sp} {E : L2.St → XK} {x : Str} {p pos : Pos} {e : Expr} {es : List Expr} {kws : List Keyword} {t tk : TA} {gV : List V → List V → List V}
theorem run_cl {pins : List (Addr × Obj)} {σ : L2.St} {H : Hp} {s : Shared} {Q : VK} {us ws : List Value} {vs zs : List V} (F : FnOk X.prog X.w X.K X.mg X.base CX k f fd ps sp) (hr : Room k X.A) (hb : Kb X.K fd ps n ks gV) (hx : PassesAt CX X σ (E σ))
    (I : Inv X pins σ H s) (r : Vals vs us) (rz : Vals zs ws) (l1 : vs.length = n) (l2 : zs.length = ks.length) (h : sp (gV vs zs) H Q (E σ)) : wpAny (model X.prog X.w) X.A (call (.ref f) us (ks.zip ws)) (EP X pins σ Q) X.xe s := by
  obtain ⟨xs, r2, b⟩ := hb.to s us ws vs zs I.kIn r rz l1 l2
  refine wpAny_call (codeAny_mono (F.run X.A X.stack s H ⟨us, ks.zip ws⟩ xs (gV vs zs) Q (E σ) hr I.env0 b r2 h) fun r s' hq => ?_)
  cases r with
  | error e => exact hx pins H s e s' I hq
  | ok fl =>
    cases fl with
    | ret u => exact I.after hq
    | next => exact False.elim hq
    | brk => exact False.elim hq
    | cont => exact False.elim hq
/-- f(e, .., k = v, ..) -/
theorem pe_cl (F : FnOk X.prog X.w X.K X.mg X.base CX k f fd ps sp) (hr : Room k X.A) (hg : Gl X x) (hm : X.mg x = some (.ref f)) (hk : PySem.W.keepIn X.K (.ref f) = true) (hb : Kb X.K fd ps n ks gV) (hx : ∀ σ, PassesAt CX X σ (E σ))
    (ha : PA X (e :: es) t) (hkw : PK X kws tk) (hmm : ks.length = m := by rfl) (hall : (backToKw pos (keywordEach kws X.env)).all (·.1.isSome) = true := by rfl) (hks : (backToKw pos (keywordEach kws X.env)).filterMap (·.1) = ks := by rfl)
    (hdb : (x == ("__debug__" : Str)) = false := by decide) (he : starEach (e :: es) X.env = (false, eval e X.env) :: starEach es X.env := by rfl)
    (hpl : ((backTo pos (starEach (e :: es) X.env)).any (·.1) || (backToKw pos (keywordEach kws X.env)).any (·.1.isNone)) = false := by rfl) :
    PE X (.Call (.Name x p) (e :: es) kws pos) (tCl n m sp gV E t tk) := by
  refine ⟨fun pins s σ H Q I h => ?_⟩
  refine wpAny_Call_Name_kw (ld_glob I hg hm ?_ hdb)
  refine PySem.W.callWith_KW (h₀ := X.base) I.ok.mod.kin hk hall (thn (ha.run pos pins s σ H _ I h) fun us s1 ⟨vs, H1, I1, r, q⟩ => ?_) hpl he
  refine thn (hkw.run pos pins s1 σ H1 _ I1 q) fun ws s2 ⟨zs, H2, I2, rz, l1, l2, q2⟩ => ⟨I2.kIn, ?_⟩
  rw [hks]
  exact run_cl F hr hb (hx σ) I2 r rz l1 (l2.trans hmm.symm) q2
/-- f(k = v, ..), f() -/
theorem pe_cl0 (F : FnOk X.prog X.w X.K X.mg X.base CX k f fd ps sp) (hr : Room k X.A) (hg : Gl X x) (hm : X.mg x = some (.ref f)) (hk : PySem.W.keepIn X.K (.ref f) = true) (hb : Kb X.K fd ps 0 ks gV) (hx : ∀ σ, PassesAt CX X σ (E σ))
    (hkw : PK X kws tk) (hmm : ks.length = m := by rfl) (hall : (backToKw pos (keywordEach kws X.env)).all (·.1.isSome) = true := by rfl) (hks : (backToKw pos (keywordEach kws X.env)).filterMap (·.1) = ks := by rfl)
    (hdb : (x == ("__debug__" : Str)) = false := by decide)
    (hpl : ((backTo pos (starEach [] X.env)).any (·.1) || (backToKw pos (keywordEach kws X.env)).any (·.1.isNone)) = false := by rfl) :
    PE X (.Call (.Name x p) [] kws pos) (tCl 0 m sp gV E tNil tk) := by
  refine ⟨fun pins s σ H Q I h => ?_⟩
  refine wpAny_Call_Name_kw (ld_glob I hg hm ?_ hdb)
  refine PySem.W.callWith_KW0 (h₀ := X.base) I.ok.mod.kin hk hall ?_ hpl
  refine thn (hkw.run pos pins s σ H _ I h) fun ws s2 ⟨zs, H2, I2, rz, l1, l2, q2⟩ => ⟨I2.kIn, ?_⟩
  rw [hks]
  exact run_cl (us := []) (vs := []) F hr hb (hx σ) I2 .nil rz rfl (l2.trans hmm.symm) q2
/-- every parameter is written, no keywords -/
theorem Kb.all {K : PySem.W.Frag} {fd : FuncData} {ps : List Str} (b : Binds K fd ps []) : Kb K fd ps ps.length [] (fun vs _ => vs) := ⟨fun s us ws vs zs X r rz l1 l2 => by
  cases zs with
  | cons _ _ => cases l2
  | nil =>
    cases rz
    have h := b s us X (by rw [List.append_nil, ← r.length, l1])
    rw [List.append_nil] at h
    exact ⟨us, r, h⟩⟩
end

/-! ### errors -/
/-- what is raised goes on as the def's own wish says -/
abbrev WD (E : XK) : WX := fun cls d _ H => E cls d H
theorem passD {X : Cx} {W : WX} (tk : Takes X W) : ∀ σ, PassesAt (L2.CX X.prog X.w) X σ (WE W σ) := fun σ => passAt tk σ
theorem pass_never {X : Cx} : ∀ σ : L2.St, PassesAt (L2.CX X.prog X.w) X σ (fun _ _ _ => False) := fun σ pins H s e s' I c => by
  obtain ⟨a, B, H', cls, d, h1, h2, h3, h4, h5, h6, h7, h8⟩ := c
  exact h8.elim
end Sh

/-! Sh3: what readings do, by data. -/
namespace Sh
open PySem PySem.Spec PyProof.Rows L2

/-- where a def runs: entered at H0, M0 masked; W what is wished for errors, X which errors are allowed where -/
structure Gx where
  K : PySem.W.Frag
  H0 : Hp
  M0 : Addr → Prop
  W : WX
  X : Addr → List (Str × D) → List Sd → Nat → Prop
  pm : Bool := false
abbrev Gx.st (G : Gx) (gs : List (V × D)) (M : Addr → Prop) (b : Nat) (H : Hp) (σ : List (Option V)) (ds : List Sd) : Prop := Stt G.K G.H0 G.M0 gs M b H σ ds
/-- p: what comes may be kept; else it may be handed back alone -/
def mmk (p : Bool) (M M0 : Addr → Prop) : Addr → Prop := match p with
  | true => M
  | false => M0
/-- the errors that X allows are wished for -/
def Gx.Acc (G : Gx) : Prop := ∀ (gs : List (V × D)) (M : Addr → Prop) (b : Nat) (H : Hp) (σ : List (Option V)) (ds : List Sd) (C dd : Addr) (fsV : List (Str × V)) (fs : List (Str × D)),
  G.st gs M b H σ ds → H dd = some (.xd fsV) → G.H0 dd = none → ¬ M dd → RpF G.K (msk (mmk G.pm M G.M0) H) fsV fs → G.X C fs ds b → G.W (.ref C) (some dd) σ H

def EvS (G : Gx) (p : Bool) (b b' : Nat) (te : TE) (ds : List Sd) (R : D → Prop) : Prop :=
  ∀ gs M H σ, G.st gs M b H σ ds → ∀ Q : VK, (∀ v d H', R d → Ext H H' → Lim b' H' → Rp G.K (msk (mmk p M G.M0) H') v d → Q v H') → te σ H Q
def EvA (G : Gx) (p : Bool) (b b' : Nat) (ta : TA) (ds : List Sd) (R : List D → Prop) : Prop :=
  ∀ gs M H σ, G.st gs M b H σ ds → ∀ Q : List V → Hp → Prop, (∀ vs es H', R es → Ext H H' → Lim b' H' → RpA G.K (msk (mmk p M G.M0) H') vs es → Q vs H') → ta σ H Q
def EvT (G : Gx) (b b' : Nat) (tt : TT) (ds : List Sd) (R : Bool → Prop) : Prop :=
  ∀ gs M H σ, G.st gs M b H σ ds → ∀ Q : Bool → Hp → Prop, (∀ c H', R c → Ext H H' → Lim b' H' → Q c H') → tt σ H Q
/-- one value -/
abbrev EvD (G : Gx) (p : Bool) (b b' : Nat) (te : TE) (ds : List Sd) (d : D) : Prop := EvS G p b b' te ds (fun x => x = d)
abbrev EaD (G : Gx) (p : Bool) (b b' : Nat) (ta : TA) (ds : List Sd) (es : List D) : Prop := EvA G p b b' ta ds (fun x => x = es)
abbrev EtD (G : Gx) (b b' : Nat) (tt : TT) (ds : List Sd) (c : Bool) : Prop := EvT G b b' tt ds (fun x => x = c)

/-- by values: two, some -/
def Op2 (K : PySem.W.Frag) (r : R2) (x y : D) (R : D → Prop) : Prop := ∀ (N : Addr → Prop) (b : Nat) (H : Hp) (v u : V) (Q : VK), (∀ a, N a → H a ≠ none) → Lim b H → Rp K (msk N H) v x → Rp K (msk N H) u y →
  (∀ z d H', R d → Ext H H' → Lim b H' → Rp K (msk N H') z d → Q z H') → r v u H Q
abbrev Op2D (K : PySem.W.Frag) (r : R2) (x y z : D) : Prop := Op2 K r x y (fun d => d = z)
def Op1 (K : PySem.W.Frag) (r : V → Hp → VK → Prop) (x : D) (R : D → Prop) : Prop := ∀ (N : Addr → Prop) (b : Nat) (H : Hp) (v : V) (Q : VK), (∀ a, N a → H a ≠ none) → Lim b H → Rp K (msk N H) v x →
  (∀ z d H', R d → Ext H H' → Lim b H' → Rp K (msk N H') z d → Q z H') → r v H Q
abbrev Op1D (K : PySem.W.Frag) (r : V → Hp → VK → Prop) (x z : D) : Prop := Op1 K r x (fun d => d = z)
def ClA (K : PySem.W.Frag) (r : List V → Hp → VK → Prop) (xs : List D) (R : D → Prop) : Prop := ∀ (N : Addr → Prop) (b : Nat) (H : Hp) (vs : List V) (Q : VK), (∀ a, N a → H a ≠ none) → Lim b H → RpA K (msk N H) vs xs →
  (∀ z d H', R d → Ext H H' → Lim b H' → Rp K (msk N H') z d → Q z H') → r vs H Q
abbrev ClD (K : PySem.W.Frag) (r : List V → Hp → VK → Prop) (xs : List D) (z : D) : Prop := ClA K r xs (fun d => d = z)

section
variable {K : PySem.W.Frag} {H0 H H' : Hp} {M0 M : Addr → Prop} {b b' : Nat} {σ : List (Option V)} {ds : List Sd} {gs : List (V × D)}
theorem Stt.mm (S : Stt K H0 M0 gs M b H σ ds) (p : Bool) : ∀ a, mmk p M M0 a → H a ≠ none := fun a h => by
  cases p with
  | true => exact S.liv a h
  | false => exact S.liv a (S.m0 a h)
theorem Stt.mmW (S : Stt K H0 M0 gs M b H σ ds) {p : Bool} {v : V} {d : D} (h : Rp K (msk M H) v d) : Rp K (msk (mmk p M M0) H) v d := by
  cases p with
  | true => exact h
  | false => exact h.mono (msk_sub S.m0)
/-- something new -/
theorem msk_new {N : Addr → Prop} {p : Addr} {o : HO} (hN : ∀ a, N a → H a ≠ none) (h : H p = none) : msk N (upd H p o) p = some o := by
  rw [msk_no fun z => hN p z h]
  exact upd_same
theorem new_lst {N : Addr → Prop} {p : Addr} {vs : List V} {xs : List D} (hN : ∀ a, N a → H a ≠ none) (h : H p = none) (r : RpA K (msk N H) vs xs) : Rp K (msk N (upd H p (.lst vs))) (.ref p) (.lst xs) :=
  .lst (msk_new hN h) (r.mono (msk_mono (Ext.new h).toKp))
theorem new_tup {N : Addr → Prop} {p : Addr} {vs : List V} {xs : List D} (hN : ∀ a, N a → H a ≠ none) (h : H p = none) (r : RpA K (msk N H) vs xs) : Rp K (msk N (upd H p (.tup vs))) (.ref p) (.tup xs) :=
  .tup (.inl (.inl (msk_new hN h))) (r.mono (msk_mono (Ext.new h).toKp))
theorem sqt_unm {N : Addr → Prop} {a : Addr} {vs : List V} (h : SqT K (msk N H) a vs) : SqT K H a vs := msk_all.seqT h
theorem sql_unm {N : Addr → Prop} {a : Addr} {vs : List V} (h : SqL K (msk N H) a vs) : SqL K H a vs := msk_all.seqL h
/-- what is no object is kept anywhere -/
def flatD : D → Bool
  | .non => true
  | .bl _ => true
  | .int _ => true
  | .str _ => true
  | .ty _ => true
  | .ref _ => true
  | _ => false
theorem Rp.flat {H H' : Hp} {v : V} {d : D} (h : Rp K H v d) (f : flatD d = true) : Rp K H' v d := by
  cases h with
  | non => exact .non
  | bl b => exact .bl b
  | int b => exact .int b
  | str b => exact .str b
  | ref b => exact .ref b
  | ty b => exact .ty b
  | _ => cases f
end

section
variable {G : Gx} {p q : Bool} {b b' b1 b2 : Nat} {te ta tb : TE} {tt tu : TT} {t tk : TA} {ds : List Sd} {R R1 R3 : D → Prop} {R2' : D → D → Prop} {d x y z : D} {r : R2}

/-! ### turning judgements -/
theorem EvS.imp (h : EvS G p b b' te ds R) (i : ∀ d, R d → R1 d) : EvS G p b b' te ds R1 := fun gs M H σ S Q k => h gs M H σ S Q fun v d H' r => k v d H' (i d r)
theorem EvD.to (h : EvD G p b b' te ds d) (i : R d) : EvS G p b b' te ds R := h.imp fun x e => by rw [e]; exact i
theorem EvD.eq (h : EvD G p b b' te ds d) (e : d = x) : EvD G p b b' te ds x := by rw [← e]; exact h
theorem EvT.eq {c c' : Bool} (h : EtD G b b' tt ds c) (e : c = c') : EtD G b b' tt ds c' := by rw [← e]; exact h
/-- what may be kept may be handed back -/
theorem EvS.wk (h : EvS G true b b' te ds R) : EvS G p b b' te ds R := fun gs M H σ S Q k => h gs M H σ S Q fun v d H' r e l rp => by
  refine k v d H' r e l ?_
  cases p with
  | true => exact rp
  | false => exact rp.mono (msk_sub S.m0)
/-- no object: it may be kept -/
theorem EvS.flat (h : EvS G q b b' te ds R) (f : ∀ d, R d → flatD d = true) : EvS G p b b' te ds R := fun gs M H σ S Q k => h gs M H σ S Q fun v d H' r e l rp => k v d H' r e l (rp.flat (f d r))
theorem EvD.flat (h : EvD G false b b' te ds d) (f : flatD d = true) : EvD G p b b' te ds d := EvS.flat h fun x e => by rw [e]; exact f
theorem EvS.less (h : EvS G p b b1 te ds R) (e : b' ≤ b1) : EvS G p b b' te ds R := fun gs M H σ S Q k => h gs M H σ S Q fun v d H' r x l => k v d H' r x (l.mono e)

/-! ### names, constants -/
theorem ev_var {i : Nat} (h : ds[i]? = some (.dat d)) : EvD G p b b (tVar i) ds d := fun gs M H σ S Q k => by
  obtain ⟨v, e, r⟩ := S.var h
  exact ⟨v, e, k v d H rfl (Ext.refl H) S.lim (S.mmW r)⟩
/-- a list of our own, asked but not kept -/
theorem ev_own {i : Nat} {xs : List D} (h : ds[i]? = some (.own xs)) : EvD G false b b (tVar i) ds (.lst xs) := fun gs M H σ S Q k => by
  obtain ⟨a, vs, e, m, ha, r, n0⟩ := S.ownL h
  refine ⟨.ref a, e, k _ _ H rfl (Ext.refl H) S.lim ?_⟩
  refine .lst ?_ (r.mono (msk_sub S.m0))
  show msk G.M0 H a = some (.lst vs)
  rw [msk_no n0]
  exact ha
/-- a list that was handed in to be changed -/
theorem ev_par {i : Nat} {a : Addr} {xs : List D} (h : ds[i]? = some (.par a xs)) : EvD G false b b (tVar i) ds (.lst xs) := fun gs M H σ S Q k => by
  obtain ⟨vs, e, m, ha, r, n0⟩ := S.parL h
  refine ⟨.ref a, e, k _ _ H rfl (Ext.refl H) S.lim ?_⟩
  refine .lst ?_ (r.mono (msk_sub S.m0))
  show msk G.M0 H a = some (.lst vs)
  rw [msk_no n0]
  exact ha
theorem ev_int {i : Int} : EvD G p b b (tC (.int i)) ds (.int i) := fun gs M H σ S Q k => k _ _ H rfl (Ext.refl H) S.lim (.int i)
theorem ev_bl {i : Bool} : EvD G p b b (tC (.bl i)) ds (.bl i) := fun gs M H σ S Q k => k _ _ H rfl (Ext.refl H) S.lim (.bl i)
theorem ev_non : EvD G p b b (tC .non) ds .non := fun gs M H σ S Q k => k _ _ H rfl (Ext.refl H) S.lim .non
theorem ev_str {i : Str} : EvD G p b b (tC (.str i)) ds (.str i) := fun gs M H σ S Q k => k _ _ H rfl (Ext.refl H) S.lim (.str i)
/-- a constant of the module: a tuple of the written part -/
theorem ev_ktup {a : Addr} {xs : List D} (h : ∀ H : Hp, Rp G.K H (.ref a) (.tup xs)) : EvD G p b b (tC (.ref a)) ds (.tup xs) := fun gs M H σ S Q k => k _ _ H rfl (Ext.refl H) S.lim (h _)
theorem ev_ref {a : Addr} : EvD G p b b (tC (.ref a)) ds (.ref a) := fun gs M H σ S Q k => k _ _ H rfl (Ext.refl H) S.lim (.ref a)

/-! ### operators -/
theorem evs_op (h1 : EvS G p b b1 ta ds R1) (h2 : ∀ x, R1 x → EvS G p b1 b2 tb ds (R2' x)) (h3 : ∀ x y, R1 x → R2' x y → Op2 G.K r x y R) : EvS G p b b2 (tOp r ta tb) ds R := fun gs M H σ S Q k =>
  h1 gs M H σ S _ fun v x H1 rx e1 l1 rp1 => h2 x rx gs M H1 σ (S.step e1 l1) _ fun u y H2 ry e2 l2 rp2 => by
    have S2 := (S.step e1 l1).step e2 l2
    exact h3 x y rx ry (mmk p M G.M0) b2 H2 v u Q (S2.mm p) l2 (rp1.mono (msk_mono e2.toKp)) rp2 fun z d H3 rd e3 l3 rp3 => k z d H3 rd ((e1.trans e2).trans e3) l3 rp3
theorem ev_op (h1 : EvD G p b b1 ta ds x) (h2 : EvD G p b1 b2 tb ds y) (h3 : Op2D G.K r x y z) : EvD G p b b2 (tOp r ta tb) ds z :=
  evs_op h1 (fun _ _ => h2) fun _ _ e1 e2 => by rw [e1, e2]; exact h3
theorem evs_un {r : V → Hp → VK → Prop} (h1 : EvS G p b b1 ta ds R1) (h3 : ∀ x, R1 x → Op1 G.K r x R) : EvS G p b b1 (tUn r ta) ds R := fun gs M H σ S Q k =>
  h1 gs M H σ S _ fun v x H1 rx e1 l1 rp1 => h3 x rx (mmk p M G.M0) b1 H1 v Q ((S.step e1 l1).mm p) l1 rp1 fun z d H3 rd e3 l3 rp3 => k z d H3 rd (e1.trans e3) l3 rp3
theorem ev_un {r : V → Hp → VK → Prop} (h1 : EvD G p b b1 ta ds x) (h3 : Op1D G.K r x z) : EvD G p b b1 (tUn r ta) ds z := evs_un h1 fun _ e => by rw [e]; exact h3

/-! ### argument lists, displays -/
theorem ea_nil : EaD G p b b tNil ds [] := fun gs M H σ S Q k => k [] [] H rfl (Ext.refl H) S.lim .nil
theorem eas_cons {R1 : D → Prop} {R2 : D → List D → Prop} (h1 : EvS G p b b1 te ds R1) (h2 : ∀ x, R1 x → EvA G p b1 b2 t ds (R2 x)) : EvA G p b b2 (tCons te t) ds (fun es => ∃ x r, es = x :: r ∧ R1 x ∧ R2 x r) := fun gs M H σ S Q k =>
  h1 gs M H σ S _ fun v x H1 rx e1 l1 rp1 => h2 x rx gs M H1 σ (S.step e1 l1) _ fun vs es H2 ry e2 l2 rp2 => k (v :: vs) (x :: es) H2 ⟨x, es, rfl, rx, ry⟩ (e1.trans e2) l2 (.cons (rp1.mono (msk_mono e2.toKp)) rp2)
theorem ea_cons {es : List D} (h1 : EvD G p b b1 te ds x) (h2 : EaD G p b1 b2 t ds es) : EaD G p b b2 (tCons te t) ds (x :: es) := fun gs M H σ S Q k =>
  eas_cons (R2 := fun _ r => r = es) h1 (fun _ _ => h2) gs M H σ S Q fun vs fs H' ⟨y, r, e, e1, e2⟩ => by
    subst e1 e2 e
    exact k vs _ H' rfl
theorem EaD.eq {es fs : List D} (h : EaD G p b b' t ds es) (e : es = fs) : EaD G p b b' t ds fs := by rw [← e]; exact h
theorem evs_lst {R1 : List D → Prop} (h : EvA G p b b' t ds R1) (hl : ∀ es, R1 es → es.length ≤ 100000) : EvS G p b b' (tLst t) ds (fun d => ∃ es, d = .lst es ∧ R1 es) := fun gs M H σ S Q k =>
  h gs M H σ S _ fun vs es H1 r1 e1 l1 rp => ⟨by rw [rp.length]; exact Nat.le_trans (hl es r1) (by decide), fun a ha => k _ _ _ ⟨es, rfl, r1⟩ (e1.trans (Ext.new ha)) (l1.upd fun _ z => nomatch z) (new_lst ((S.step e1 l1).mm p) ha rp)⟩
theorem ev_lst {es : List D} (h : EaD G p b b' t ds es) (hl : es.length ≤ 100000 := by decide) : EvD G p b b' (tLst t) ds (.lst es) :=
  (evs_lst h fun fs e => by rw [e]; exact hl).imp fun d ⟨fs, e1, e2⟩ => by rw [e1, e2]
theorem evs_tup {R1 : List D → Prop} (h : EvA G p b b' t ds R1) (hl : ∀ es, R1 es → es.length ≤ 100000) : EvS G p b b' (tTup t) ds (fun d => ∃ es, d = .tup es ∧ R1 es) := fun gs M H σ S Q k =>
  h gs M H σ S _ fun vs es H1 r1 e1 l1 rp => ⟨by rw [rp.length]; exact Nat.le_trans (hl es r1) (by decide), fun a ha => k _ _ _ ⟨es, rfl, r1⟩ (e1.trans (Ext.new ha)) (l1.upd fun _ z => nomatch z) (new_tup ((S.step e1 l1).mm p) ha rp)⟩
theorem ev_tup {es : List D} (h : EaD G p b b' t ds es) (hl : es.length ≤ 100000 := by decide) : EvD G p b b' (tTup t) ds (.tup es) :=
  (evs_tup h fun fs e => by rw [e]; exact hl).imp fun d ⟨fs, e1, e2⟩ => by rw [e1, e2]
/-- a call of what is known -/
theorem evs_cb {rr : List V → Hp → VK → Prop} {R1 : List D → Prop} (h : EvA G p b b' t ds R1) (h3 : ∀ es, R1 es → ClA G.K rr es R) : EvS G p b b' (tCB rr t) ds R := fun gs M H σ S Q k =>
  h gs M H σ S _ fun vs es H1 r1 e1 l1 rp => h3 es r1 (mmk p M G.M0) b' H1 vs Q ((S.step e1 l1).mm p) l1 rp fun z d H3 rd e3 l3 rp3 => k z d H3 rd (e1.trans e3) l3 rp3
theorem ev_cb {rr : List V → Hp → VK → Prop} {es : List D} (h : EaD G p b b' t ds es) (h3 : ClD G.K rr es z) : EvD G p b b' (tCB rr t) ds z := evs_cb h fun _ e => by rw [e]; exact h3

/-! ### tests -/
theorem et_tst {c : Bool} (h : EvD G false b b' te ds (.bl c)) : EtD G b b' (tTest te) ds c := fun gs M H σ S Q k => h gs M H σ S _ fun v d H' r e l rp => by
  subst r
  cases rp
  exact ⟨_, rfl, k c H' rfl e l⟩
theorem ets_tst {R1 : Bool → Prop} (h : EvS G false b b' te ds (fun d => ∃ c, d = .bl c ∧ R1 c)) : EvT G b b' (tTest te) ds R1 := fun gs M H σ S Q k => h gs M H σ S _ fun v d H' r e l rp => by
  obtain ⟨c, rfl, r1⟩ := r
  cases rp
  exact ⟨_, rfl, k c H' r1 e l⟩
theorem et_B {c : Bool} (h : EvD G false b b' te ds (.bl c)) : EtD G b b' (tB te) ds c := fun gs M H σ S Q k => h gs M H σ S _ fun v d H' r e l rp => by
  subst r
  cases rp
  exact ⟨_, rfl, k c H' rfl e l⟩
theorem et_not {c : Bool} (h : EtD G b b' tt ds c) : EtD G b b' (tNot tt) ds (!c) := fun gs M H σ S Q k => h gs M H σ S _ fun v H' r e l => k (!v) H' (by rw [r]) e l
theorem et_and {c e : Bool} (h : EtD G b b tt ds c) (h2 : c = true → EtD G b b tu ds e) : EtD G b b (tAnd tt tu) ds (c && e) := fun gs M H σ S Q k => h gs M H σ S _ fun v H' r x l => by
  subst r
  cases v with
  | true => exact (by show tu σ H' Q; exact h2 rfl gs M H' σ (S.step x l) Q fun w H2 r2 x2 l2 => k w H2 (by rw [r2]; rfl) (x.trans x2) l2)
  | false => exact (by show Q false H'; exact k false H' rfl x l)
theorem et_or {c e : Bool} (h : EtD G b b tt ds c) (h2 : c = false → EtD G b b tu ds e) : EtD G b b (tOr tt tu) ds (c || e) := fun gs M H σ S Q k => h gs M H σ S _ fun v H' r x l => by
  subst r
  cases v with
  | false => exact (by show tu σ H' Q; exact h2 rfl gs M H' σ (S.step x l) Q fun w H2 r2 x2 l2 => k w H2 (by rw [r2]; rfl) (x.trans x2) l2)
  | true => exact (by show Q true H'; exact k true H' rfl x l)
theorem ev_andV {c e : Bool} (h : EvD G false b b ta ds (.bl c)) (h2 : c = true → EvD G false b b tb ds (.bl e)) : EvD G p b b (tAndV ta tb) ds (.bl (c && e)) := fun gs M H σ S Q k => h gs M H σ S _ fun v d H' r x l rp => by
  subst r
  cases rp
  refine ⟨c, rfl, ?_⟩
  cases c with
  | true => exact (by show tb σ H' Q; exact h2 rfl gs M H' σ (S.step x l) Q fun w d2 H2 r2 x2 l2 rp2 => k w d2 H2 (by rw [r2]; rfl) (x.trans x2) l2 (by subst r2; exact rp2.flat rfl))
  | false => exact (by show Q (.bl false) H'; exact k _ _ H' rfl x l (.bl false))
theorem ev_orV {c e : Bool} (h : EvD G false b b ta ds (.bl c)) (h2 : c = false → EvD G false b b tb ds (.bl e)) : EvD G p b b (tOrV ta tb) ds (.bl (c || e)) := fun gs M H σ S Q k => h gs M H σ S _ fun v d H' r x l rp => by
  subst r
  cases rp
  refine ⟨c, rfl, ?_⟩
  cases c with
  | false => exact (by show tb σ H' Q; exact h2 rfl gs M H' σ (S.step x l) Q fun w d2 H2 r2 x2 l2 rp2 => k w d2 H2 (by rw [r2]; rfl) (x.trans x2) l2 (by subst r2; exact rp2.flat rfl))
  | true => exact (by show Q (.bl true) H'; exact k _ _ H' rfl x l (.bl true))
theorem ev_notV {c : Bool} (h : EvD G false b b' ta ds (.bl c)) : EvD G p b b' (tNotV ta) ds (.bl (!c)) := fun gs M H σ S Q k => h gs M H σ S _ fun v d H' r x l rp => by
  subst r
  cases rp
  exact ⟨c, rfl, k _ _ H' rfl x l (.bl _)⟩
/-- a if t else b -/
theorem evs_if {c : Bool} (h : EtD G b b1 tt ds c) (h1 : c = true → EvS G p b1 b' ta ds R) (h2 : c = false → EvS G p b1 b' tb ds R) : EvS G p b b' (tIf tt ta tb) ds R := fun gs M H σ S Q k => h gs M H σ S _ fun v H' r x l => by
  subst r
  cases v with
  | true => exact (by show ta σ H' Q; exact h1 rfl gs M H' σ (S.step x l) Q fun w d2 H2 r2 x2 l2 rp2 => k w d2 H2 r2 (x.trans x2) l2 rp2)
  | false => exact (by show tb σ H' Q; exact h2 rfl gs M H' σ (S.step x l) Q fun w d2 H2 r2 x2 l2 rp2 => k w d2 H2 r2 (x.trans x2) l2 rp2)
theorem ev_if {c : Bool} (h : EtD G b b1 tt ds c) (h1 : c = true → EvD G p b1 b' ta ds x) (h2 : c = false → EvD G p b1 b' tb ds y) : EvD G p b b' (tIf tt ta tb) ds (bif c then x else y) :=
  evs_if h (fun e => by subst e; exact h1 rfl) fun e => by subst e; exact h2 rfl
/-- a comparison of two -/
theorem ev_chain {r r' : R2} {tc : TE} {c e : Bool} {w : D} (h1 : EvD G p b b ta ds x) (h2 : EvD G p b b tb ds y) (h3 : Op2D G.K r x y (.bl c)) (h4 : c = true → EvD G p b b tc ds z) (h5 : c = true → Op2D G.K r' y z (.bl e)) :
    EvD G q b b (tChain r r' ta tb tc) ds (.bl (c && e)) := fun gs M H σ S Q k =>
  h1 gs M H σ S _ fun v1 d1 H1 r1 x1 l1 rp1 => h2 gs M H1 σ (S.step x1 l1) _ fun v2 d2 H2 r2 x2 l2 rp2 => by
    subst r1 r2
    have S2 := (S.step x1 l1).step x2 l2
    refine h3 (mmk p M G.M0) b H2 v1 v2 _ (S2.mm p) l2 (rp1.mono (msk_mono x2.toKp)) rp2 fun v3 d3 H3 r3 x3 l3 rp3 => ?_
    subst r3
    cases rp3
    refine ⟨c, rfl, ?_⟩
    cases c with
    | false => exact (by show Q (.bl false) H3; exact k _ _ H3 rfl ((x1.trans x2).trans x3) l3 (.bl false))
    | true =>
      show tc σ H3 fun w' H4 => r' v2 w' H4 Q
      have S3 := S2.step x3 l3
      refine h4 rfl gs M H3 σ S3 _ fun v4 d4 H4 r4 x4 l4 rp4 => ?_
      subst r4
      refine h5 rfl (mmk p M G.M0) b H4 v2 v4 Q ((S3.step x4 l4).mm p) l4 ((rp2.mono (msk_mono x3.toKp)).mono (msk_mono x4.toKp)) rp4 fun v5 d5 H5 r5 x5 l5 rp5 => ?_
      subst r5
      exact k _ _ H5 rfl (((x1.trans x2).trans x3).trans (x4.trans x5)) l5 (rp5.flat rfl)
end
end Sh

/-! Sh4: statements by data, defs by data. -/
namespace Sh
open PySem PySem.Spec PyProof.Rows L2

structure DE where
  nx : List Sd → Nat → Prop
  rt : D → List Sd → Nat → Prop
  bk : List Sd → Nat → Prop := fun _ _ => False
  ct : List Sd → Nat → Prop := fun _ _ => False
  ro : Bool := false
  ro2 : Nat := 0

/-- v is a new list that nothing else knows -/
def OwnV (K : PySem.W.Frag) (N : Addr → Prop) (H H' : Hp) (v : V) (d : D) : Prop := ∃ (a : Addr) (vs : List V) (xs : List D), v = .ref a ∧ d = .lst xs ∧ H a = none ∧ H' a = some (.lst vs) ∧ RpA K (msk (fun c => N c ∨ c = a) H') vs xs
/-- rows: lists at the addresses F, their items no objects -/
inductive RowsP (K : PySem.W.Frag) (H : Hp) : List V → List (List D) → List Addr → Prop
  | nil : RowsP K H [] [] []
  | cons {b : Addr} {ws : List V} {ys : List D} {vs : List V} {yss : List (List D)} {F : List Addr} : H b = some (.lst ws) → RpA K (fun _ => none) ws ys → (∀ y ∈ ys, flatD y = true) → RowsP K H vs yss F → RowsP K H (.ref b :: vs) (ys :: yss) (b :: F)
/-- v is a new list of new lists, all unlike -/
def OwnV2 (K : PySem.W.Frag) (H H' : Hp) (v : V) (d : D) : Prop := ∃ (a : Addr) (vs : List V) (yss : List (List D)) (F : List Addr), v = .ref a ∧ d = .lst (yss.map .lst) ∧ H a = none ∧ (∀ c ∈ F, H c = none) ∧ (a :: F).Nodup ∧ H' a = some (.lst vs) ∧ RowsP K H' vs yss F
/-- v is a new tree of objects that nothing else knows, so many levels deep -/
def OwnT (lv : Nat) (K : PySem.W.Frag) (N : Addr → Prop) (H H' : Hp) (v : V) (d : D) : Prop := ∃ F : List Addr, (∀ a ∈ F, H a = none) ∧ F.Nodup ∧ Tr K (fun c => N c ∨ c ∈ F) H' v (full lv d) F
def OwnX (p2 : Nat) (K : PySem.W.Frag) (N : Addr → Prop) (H H' : Hp) (v : V) (d : D) : Prop := match p2 with
  | 0 => OwnV K N H H' v d
  | 1 => OwnV2 K H H' v d
  | lv + 2 => OwnT lv K N H H' v d
structure Wants (G : Gx) (gs : List (V × D)) (E : DE) (Dn : Ends) : Prop where
  nx : ∀ M b H σ ds, G.st gs M b H σ ds → E.nx ds b → Dn.nx σ H
  rt : ∀ M b H σ ds v d, G.st gs M b H σ ds → E.rt d ds b → Rp G.K (msk G.M0 H) v d → (E.ro = true → OwnX E.ro2 G.K G.M0 G.H0 H v d) → Dn.rt v H
  bk : ∀ M b H σ ds, G.st gs M b H σ ds → E.bk ds b → Dn.bk σ H
  ct : ∀ M b H σ ds, G.st gs M b H σ ds → E.ct ds b → Dn.ct σ H
def Wt (G : Gx) (b : Nat) (ts : TS) (ds : List Sd) (E : DE) : Prop := ∀ gs M H σ, G.st gs M b H σ ds → ∀ Dn : Ends, Wants G gs E Dn → ts Dn σ H

section
variable {K : PySem.W.Frag} {H0 H H' : Hp} {M0 M : Addr → Prop} {b b' : Nat} {σ : List (Option V)} {ds : List Sd} {gs : List (V × D)}
theorem Stt.mmF (S : Stt K H0 M0 gs M b H σ ds) {p : Bool} {v : List (Str × V)} {d : List (Str × D)} (h : RpF K (msk M H) v d) : RpF K (msk (mmk p M M0) H) v d := by
  cases p with
  | true => exact h
  | false => exact h.mono (msk_sub S.m0)
/-- new objects of our own -/
theorem Stt.growP {H' : Hp} {b' : Nat} (S : Stt K H0 M0 gs M b H σ ds) {P : Addr → Prop} (hp : ∀ a, P a → H a = none) (e : Ext H H') (l : Lim b' H') (hl : ∀ a, P a → H' a ≠ none) :
    Stt K H0 M0 gs (fun a => M a ∨ P a) b' H' σ ds := by
  have hup : Kp (msk M H) (msk (fun a => M a ∨ P a) H') := ⟨fun a o h n => by
    obtain ⟨h1, h2⟩ := msk_of h
    have na : ¬ P a := fun z => by rw [hp a z] at h2; cases h2
    rw [msk_no fun z => z.elim h1 na]
    exact e.keep a o h2 n, fun a n h => by
    obtain ⟨h1, h2⟩ := msk_of h
    have na : ¬ P a := fun z => by rw [hp a z] at h2; unfold PurseO at h2; cases h2
    obtain ⟨m, q⟩ := e.pz a n h2
    exact ⟨m, by rw [msk_no fun z => z.elim h1 na]; exact q⟩⟩
  refine ⟨S.ext.trans e, fun a h => .inl (S.m0 a h), fun a h n => ?_, fun a h => ?_, l, S.len, fun j s d h1 h2 => (S.sl j s d h1 h2).chg hup (fun _ _ m => .inl m) fun a o _ ho n => e.keep a o ho n, S.inj, S.ownNew, fun q hq => (S.gh q hq).mono hup⟩
  · rcases h with h | h
    · exact S.new a h n
    · exact S.ext.free (hp a h)
  · rcases h with h | h
    · exact e.dom a (S.liv a h)
    · exact hl a h
theorem Stt.adoptG {H' : Hp} {b' : Nat} (S : Stt K H0 M0 gs M b H σ ds) {i : Nat} {s : Option V} {sd : Sd} {P : Addr → Prop} (hp : ∀ a, P a → H a = none) (e : Ext H H') (l : Lim b' H') (hl : ∀ a, P a → H' a ≠ none)
    (ok : SlOk K (fun a => M a ∨ P a) H' s sd) (ho : ∀ a, sd.adr s a → P a) : Stt K H0 M0 gs (fun a => M a ∨ P a) b' H' (σ.set i s) (ds.set i sd) := by
  have S1 := S.growP hp e l hl
  have nM : ∀ a, P a → ¬ M a := fun a h z => S.liv a z (hp a h)
  refine ⟨S1.ext, S1.m0, S1.new, S1.liv, l, by rw [List.length_set, List.length_set, S.len], fun j s' e' h1 h2 => ?_, fun j k a h1 h2 => ?_, fun j a h1 => ?_, S1.gh⟩
  · by_cases hj : i = j
    · subst hj
      have hi : i < σ.length := by simpa using (List.getElem?_eq_some_iff.mp h1).1
      rw [List.getElem?_set_self hi] at h1
      rw [List.getElem?_set_self (by rw [← S.len]; exact hi)] at h2
      cases h1
      cases h2
      exact ok
    · rw [List.getElem?_set_ne hj] at h1 h2
      exact S1.sl j s' e' h1 h2
  · rcases at_set h1 with ⟨e1, h1⟩ | ⟨e1, h1⟩
    · rcases at_set h2 with ⟨e2, h2⟩ | ⟨e2, h2⟩
      · rw [e1, e2]
      · exact absurd (S.atM h2) (nM a (ho a h1))
    · rcases at_set h2 with ⟨e2, h2⟩ | ⟨e2, h2⟩
      · exact absurd (S.atM h1) (nM a (ho a h2))
      · exact S.inj j k a h1 h2
  · rcases at_set h1 with ⟨e1, h1⟩ | ⟨e1, h1⟩
    · exact fun z => nM a (ho a h1) (S.m0 a z)
    · exact S.ownNew j a h1
/-- a new list is our own -/
theorem Stt.setOwn (S : Stt K H0 M0 gs M b H σ ds) {i : Nat} {p : Addr} {vs : List V} {xs : List D} (hp : H p = none) (r : RpA K (msk M H) vs xs) :
    Stt K H0 M0 gs (fun a => M a ∨ a = p) b (upd H p (.lst vs)) (σ.set i (some (.ref p))) (ds.set i (.own xs)) := by
  refine S.adoptG (P := fun a => a = p) (fun a h => by rw [h]; exact hp) (Ext.new hp) (S.lim.upd fun _ z => nomatch z) (fun a h => by rw [h, upd_same]; exact fun z => nomatch z) ⟨p, vs, rfl, .inr rfl, upd_same, r.mono (Kp.sub fun a o h => ?_)⟩ fun a h => by cases h; rfl
  obtain ⟨h1, h2⟩ := msk_of h
  have na : a ≠ p := ne_of_none h2 hp
  rw [msk_no fun z => z.elim h1 na, upd_ne na]
  exact h2
/-- what belongs to slot i is changed: it belongs to that slot, or to none -/
theorem Stt.chgG {H' : Hp} (S : Stt K H0 M0 gs M b H σ ds) {i : Nat} {s : Option V} {sn : Sd} (hs : σ[i]? = some s) (hm : msk M H' = msk M H) (hx : Ext H0 H') (hl : Lim b H') (hd : ∀ a, M a → H' a ≠ none)
    (hk : ∀ a o, M a → (∀ j, j ≠ i → At σ ds j a → H a = some o → (∀ φ, o ≠ .ext φ) → H' a = some o)) (ok : SlOk K M H' s sn) (hn : ∀ a, sn.adr s a → ¬ M0 a ∧ ∀ j, j ≠ i → ¬ At σ ds j a) :
    Stt K H0 M0 gs M b H' σ (ds.set i sn) := by
  refine ⟨hx, S.m0, S.new, hd, hl, by rw [List.length_set]; exact S.len, fun j s' e' h1 h2 => ?_, fun j k a h1 h2 => ?_, fun j a h1 => ?_, fun q hq => by rw [hm]; exact S.gh q hq⟩
  · by_cases hj : i = j
    · subst hj
      rw [hs] at h1
      cases h1
      rw [List.getElem?_set_self (by rw [← S.len]; exact (List.getElem?_eq_some_iff.mp hs).1)] at h2
      cases h2
      exact ok
    · rw [List.getElem?_set_ne hj] at h2
      refine (S.sl j s' e' h1 h2).chg (by rw [hm]; exact Kp.refl _) (fun _ _ m => m) fun a o ha ho n => hk a o (S.atM ⟨s', e', h1, h2, ha⟩) j (Ne.symm hj) ⟨s', e', h1, h2, ha⟩ ho n
  · rcases at_setD hs h1 with ⟨e1, h1⟩ | ⟨e1, h1⟩
    · rcases at_setD hs h2 with ⟨e2, h2⟩ | ⟨e2, h2⟩
      · rw [e1, e2]
      · exact absurd h2 ((hn a h1).2 k e2)
    · rcases at_setD hs h2 with ⟨e2, h2⟩ | ⟨e2, h2⟩
      · exact absurd h1 ((hn a h2).2 j e1)
      · exact S.inj j k a h1 h2
  · rcases at_setD hs h1 with ⟨e1, h1⟩ | ⟨e1, h1⟩
    · exact (hn a h1).1
    · exact S.ownNew j a h1
/-- our own object is changed -/
theorem Stt.chgO {o : HO} (S : Stt K H0 M0 gs M b H σ ds) {i : Nat} {a : Addr} {s : Option V} {sn : Sd} (ha : At σ ds i a) (hs : σ[i]? = some s) (ho : ∀ φ, o ≠ .ext φ) (hn : ∀ H', H' a = some o → (∀ c, c ≠ a → H' c = H c) → msk M H' = msk M H → SlOk K M H' s sn) (hsub : ∀ c, sn.adr s c → At σ ds i c) :
    Stt K H0 M0 gs M b (upd H a o) σ (ds.set i sn) := by
  have m := S.atM ha
  have hm : msk M (upd H a o) = msk M H := msk_upd m
  refine S.chgG hs hm (S.ext.mut (S.new a m (S.ownNew i a ha))) (S.lim.upd ho) (fun c h => ?_) (fun c u _ j hj hc hu _ => ?_) (hn _ upd_same (fun c h => upd_ne h) hm) fun c h => ⟨S.ownNew i c (hsub c h), fun j hj q => hj (S.inj j i c q (hsub c h))⟩
  · by_cases e : c = a
    · rw [e, upd_same]; exact fun z => nomatch z
    · rw [upd_ne e]; exact S.liv c h
  · rw [upd_ne fun z => hj (S.inj j i a (by rw [← z]; exact hc) ha)]
    exact hu
theorem Stt.chg (S : Stt K H0 M0 gs M b H σ ds) {i : Nat} {a : Addr} {vs : List V} {xs ys : List D} (hi : ds[i]? = some (.own xs)) (hσ : σ[i]? = some (some (.ref a))) (r : RpA K (msk M H) vs ys) :
    Stt K H0 M0 gs M b (upd H a (.lst vs)) σ (ds.set i (.own ys)) := by
  obtain ⟨a', ws, e1, m, ha, r0, n0⟩ := S.ownL hi
  rw [hσ] at e1
  cases e1
  exact S.chgO (i := i) ⟨_, _, hσ, hi, rfl⟩ hσ (fun _ z => nomatch z) (fun H' h1 _ h2 => ⟨a, vs, rfl, m, h1, by rw [h2]; exact r⟩) fun c h => ⟨_, _, hσ, hi, h⟩
theorem Stt.chgP (S : Stt K H0 M0 gs M b H σ ds) {i : Nat} {a : Addr} {vs : List V} {xs ys : List D} (hi : ds[i]? = some (.par a xs)) (r : RpA K (msk M H) vs ys) :
    Stt K H0 M0 gs M b (upd H a (.lst vs)) σ (ds.set i (.par a ys)) := by
  obtain ⟨ws, e1, m, ha, r0, n0⟩ := S.parL hi
  exact S.chgO (i := i) ⟨_, _, e1, hi, rfl⟩ e1 (fun _ z => nomatch z) (fun H' h1 _ h2 => ⟨vs, rfl, m, h1, by rw [h2]; exact r⟩) fun c h => ⟨_, _, e1, hi, h⟩
/-- what belongs to a slot is data from now on -/
theorem Stt.freezeG (S : Stt K H0 M0 gs M b H σ ds) {i : Nat} {s : V} {d : D} (hs : σ[i]? = some (some s)) (r : ∀ M', (∀ c, M' c → M c ∧ ¬ At σ ds i c) → Rp K (msk M' H) s d) : ∃ M', (∀ c, M' c → M c) ∧ Stt K H0 M0 gs M' b H σ (ds.set i (.dat d)) := by
  have hk : Kp (msk M H) (msk (fun c => M c ∧ ¬ At σ ds i c) H) := msk_sub fun c h => h.1
  refine ⟨fun c => M c ∧ ¬ At σ ds i c, fun c h => h.1, S.ext, fun c h => ⟨S.m0 c h, fun z => S.ownNew i c z h⟩, fun c h n => S.new c h.1 n, fun c h => S.liv c h.1, S.lim, by rw [List.length_set]; exact S.len, fun j s' e h1 h2 => ?_, fun j k c h1 h2 => ?_, fun j c h1 => ?_, fun q hq => (S.gh q hq).mono hk⟩
  · by_cases hj : i = j
    · subst hj
      rw [hs] at h1
      cases h1
      rw [List.getElem?_set_self (by rw [← S.len]; exact (List.getElem?_eq_some_iff.mp hs).1)] at h2
      cases h2
      exact ⟨_, rfl, r _ fun _ h => h⟩
    · rw [List.getElem?_set_ne hj] at h2
      exact (S.sl j s' e h1 h2).chg hk (fun c hc m => ⟨m, fun z => hj (S.inj i j c z ⟨s', e, h1, h2, hc⟩)⟩) fun c o _ ho _ => ho
  · rcases at_setD hs h1 with ⟨_, h1⟩ | ⟨_, h1⟩
    · cases h1
    · rcases at_setD hs h2 with ⟨_, h2⟩ | ⟨_, h2⟩
      · cases h2
      · exact S.inj j k c h1 h2
  · rcases at_setD hs h1 with ⟨_, h1⟩ | ⟨_, h1⟩
    · cases h1
    · exact S.ownNew j c h1
/-- our own list is data from now on -/
theorem Stt.freeze (S : Stt K H0 M0 gs M b H σ ds) {i : Nat} {xs : List D} (hi : ds[i]? = some (.own xs)) : ∃ M', Stt K H0 M0 gs M' b H σ (ds.set i (.dat (.lst xs))) := by
  obtain ⟨a, vs, hσ, m, ha, r, n0⟩ := S.ownL hi
  obtain ⟨M', _, q⟩ := S.freezeG (i := i) (d := .lst xs) hσ fun M' h => .lst (by rw [msk_no fun z => (h a z).2 ⟨_, _, hσ, hi, rfl⟩]; exact ha) (r.mono (msk_sub fun c hc => (h c hc).1))
  exact ⟨M', q⟩
/-- ghosts -/
theorem Stt.ghost (S : Stt K H0 M0 gs M b H σ ds) {v : V} {d : D} (r : Rp K (msk M H) v d) : Stt K H0 M0 ((v, d) :: gs) M b H σ ds :=
  ⟨S.ext, S.m0, S.new, S.liv, S.lim, S.len, S.sl, S.inj, S.ownNew, fun q hq => by
    rcases List.mem_cons.mp hq with e | hq
    · rw [e]; exact r
    · exact S.gh q hq⟩
theorem Stt.unghost {g : V × D} (S : Stt K H0 M0 (g :: gs) M b H σ ds) : Stt K H0 M0 gs M b H σ ds :=
  ⟨S.ext, S.m0, S.new, S.liv, S.lim, S.len, S.sl, S.inj, S.ownNew, fun q hq => S.gh q (List.mem_cons_of_mem _ hq)⟩
end

section
variable {G : Gx} {p : Bool} {b b' b1 b2 : Nat} {te ta tb : TE} {tt : TT} {ts t u : TS} {tA : TA} {ds : List Sd} {R : D → Prop} {d : D} {E : DE} {i j : Nat}
theorem Wants.imp {gs : List (V × D)} {E E' : DE} {Dn : Ends} (w : Wants G gs E' Dn) (h1 : ∀ ds b, E.nx ds b → E'.nx ds b) (h2 : ∀ d ds b, E.rt d ds b → E'.rt d ds b) (h3 : ∀ ds b, E.bk ds b → E'.bk ds b) (h4 : ∀ ds b, E.ct ds b → E'.ct ds b) (h5 : E'.ro = true → E.ro = true) (h6 : E'.ro2 = E.ro2 := by rfl) : Wants G gs E Dn :=
  ⟨fun M b H σ ds S e => w.nx M b H σ ds S (h1 _ _ e), fun M b H σ ds v d S e r o => w.rt M b H σ ds v d S (h2 _ _ _ e) r fun z => (by rw [h6]; exact o (h5 z)), fun M b H σ ds S e => w.bk M b H σ ds S (h3 _ _ e), fun M b H σ ds S e => w.ct M b H σ ds S (h4 _ _ e)⟩
theorem Wt.imp {E' : DE} (h : Wt G b ts ds E) (h1 : ∀ ds b, E.nx ds b → E'.nx ds b) (h2 : ∀ d ds b, E.rt d ds b → E'.rt d ds b) (h3 : ∀ ds b, E.bk ds b → E'.bk ds b) (h4 : ∀ ds b, E.ct ds b → E'.ct ds b) (h5 : E'.ro = true → E.ro = true) (h6 : E'.ro2 = E.ro2 := by rfl) : Wt G b ts ds E' :=
  fun gs M H σ S Dn w => h gs M H σ S Dn (w.imp h1 h2 h3 h4 h5 h6)
theorem w_next (h : E.nx ds b) : Wt G b tNext ds E := fun gs M H σ S Dn w => w.nx M b H σ ds S h
theorem w_seq (h : Wt G b t ds { E with nx := fun ds' b' => Wt G b' u ds' E }) : Wt G b (tSeq t u) ds E := fun gs M H σ S Dn w =>
  h gs M H σ S { Dn with nx := u Dn } ⟨fun M' b' H' σ' ds' S' e => e gs M' H' σ' S' Dn w, w.rt, w.bk, w.ct⟩
theorem w_brk (h : E.bk ds b) : Wt G b tBreak ds E := fun gs M H σ S Dn w => w.bk M b H σ ds S h
theorem w_cnt (h : E.ct ds b) : Wt G b tCont ds E := fun gs M H σ S Dn w => w.ct M b H σ ds S h
/-- name = e -/
theorem ws_asg (h : EvS G true b b' te ds R) (k : ∀ d, R d → E.nx (ds.set i (.dat d)) b') : Wt G b (tAsg te (gName i)) ds E := fun gs M H σ S Dn w =>
  h gs M H σ S _ fun v d H' r e l rp => w.nx M b' H' _ _ ((S.step e l).set rp) (k d r)
theorem w_asg (h : EvD G true b b' te ds d) (k : E.nx (ds.set i (.dat d)) b') : Wt G b (tAsg te (gName i)) ds E := ws_asg h fun _ e => by rw [e]; exact k
/-- name = [..], our own from now on -/
theorem w_own {es : List D} (h : EaD G true b b' tA ds es) (k : E.nx (ds.set i (.own es)) b') (hl : es.length ≤ 100000 := by decide) : Wt G b (tAsg (tLst tA) (gName i)) ds E := fun gs M H σ S Dn w =>
  h gs M H σ S _ fun vs fs H' r e l rp => ⟨by rw [rp.length, r]; exact Nat.le_trans hl (by decide), fun a ha => w.nx _ b' _ _ _ ((S.step e l).setOwn ha (by rw [r] at rp; exact rp)) k⟩
theorem w_freeze {xs : List D} (h : ds[i]? = some (.own xs)) (k : Wt G b ts (ds.set i (.dat (.lst xs))) E) : Wt G b ts ds E := fun gs M H σ S Dn w => by
  obtain ⟨M', S'⟩ := S.freeze h
  exact k gs M' H σ S' Dn w
/-- a, b, .. = e -/
def gNames : List Nat → TGs
  | [] => gNil
  | i :: is => gCons (gName i) (gNames is)
def setAll (ds : List Sd) : List Nat → List D → List Sd
  | i :: is, d :: es => setAll (ds.set i (.dat d)) is es
  | _, _ => ds
theorem names_run {K : PySem.W.Frag} {H0 H : Hp} {M0 M : Addr → Prop} {gs : List (V × D)} {Q : L2.St → Hp → Prop} : ∀ (is : List Nat) (vs : List V) (es : List D) (σ : List (Option V)) (ds : List Sd), is.length = vs.length → Stt K H0 M0 gs M b H σ ds → RpA K (msk M H) vs es →
    (∀ σ', Stt K H0 M0 gs M b H σ' (setAll ds is es) → Q σ' H) → gNames is vs σ H Q
  | [], [], [], σ, ds, _, S, .nil, k => ⟨rfl, k σ S⟩
  | i :: is, v :: vs, d :: es, σ, ds, hl, S, .cons r rr, k => ⟨v, vs, rfl, names_run is vs es _ _ (Nat.succ.inj hl) (S.set r) rr k⟩
theorem ws_unpack {is : List Nat} {n : Nat} (h : EvS G true b b' te ds R) (k : ∀ d, R d → ∃ es, d = .tup es ∧ es.length = n ∧ is.length = n ∧ E.nx (setAll ds is es) b') : Wt G b (tAsg te (gTup G.K n (gNames is))) ds E := fun gs M H σ S Dn w =>
  h gs M H σ S _ fun v d H' r e l rp => by
    obtain ⟨es, rfl, h1, h2, h3⟩ := k d r
    cases rp with
    | tup hs ha =>
      exact ⟨_, _, rfl, sqt_unm hs, by rw [ha.length, h1], names_run is _ es σ ds (by rw [h2, ← h1, ha.length]) (S.step e l) ha fun σ' S' => w.nx M b' H' σ' _ S' h3⟩
theorem w_unpack {is : List Nat} {n : Nat} {es : List D} (h : EvD G true b b' te ds (.tup es)) (k : E.nx (setAll ds is es) b') (h1 : es.length = n := by rfl) (h2 : is.length = n := by rfl) : Wt G b (tAsg te (gTup G.K n (gNames is))) ds E :=
  ws_unpack h fun d e => ⟨es, e, h1, h2, k⟩
theorem w_if {c : Bool} (h : EtD G b b1 tt ds c) (h1 : c = true → Wt G b1 t ds E) (h2 : c = false → Wt G b1 u ds E) : Wt G b (tIfS tt t u) ds E := fun gs M H σ S Dn w => h gs M H σ S _ fun v H' r x l => by
  subst r
  cases v with
  | true => exact (by show t Dn σ H'; exact h1 rfl gs M H' σ (S.step x l) Dn w)
  | false => exact (by show u Dn σ H'; exact h2 rfl gs M H' σ (S.step x l) Dn w)
theorem ws_if {R : Bool → Prop} (h : EvT G b b1 tt ds R) (h1 : R true → Wt G b1 t ds E) (h2 : R false → Wt G b1 u ds E) : Wt G b (tIfS tt t u) ds E := fun gs M H σ S Dn w => h gs M H σ S _ fun v H' r x l => by
  cases v with
  | true => exact (by show t Dn σ H'; exact h1 r gs M H' σ (S.step x l) Dn w)
  | false => exact (by show u Dn σ H'; exact h2 r gs M H' σ (S.step x l) Dn w)
theorem ws_ret (h : EvS G false b b' te ds R) (k : ∀ d, R d → E.rt d ds b') (ho : E.ro = false := by rfl) : Wt G b (tRet te) ds E := fun gs M H σ S Dn w => h gs M H σ S _ fun v d H' r e l rp => w.rt M b' H' σ ds v d (S.step e l) (k d r) rp fun z => by rw [ho] at z; cases z
theorem w_ret (h : EvD G false b b' te ds d) (k : E.rt d ds b') (ho : E.ro = false := by rfl) : Wt G b (tRet te) ds E := ws_ret h (fun _ e => by rw [e]; exact k) ho
theorem w_retN (k : E.rt .non ds b) (ho : E.ro = false := by rfl) : Wt G b tRetN ds E := fun gs M H σ S Dn w => w.rt M b H σ ds .non .non S k .non fun z => by rw [ho] at z; cases z
theorem ws_drop (h : EvS G false b b' te ds R) (k : ∀ d, R d → E.nx ds b') : Wt G b (tDrop te) ds E := fun gs M H σ S Dn w => h gs M H σ S _ fun v d H' r e l rp => w.nx M b' H' σ ds (S.step e l) (k d r)
theorem w_drop (h : EvD G false b b' te ds d) (k : E.nx ds b') : Wt G b (tDrop te) ds E := ws_drop h fun _ _ => k
/-- found.append(e), found our own -/
theorem ws_app {xs : List D} (hi : ds[i]? = some (.own xs)) (h : EvS G true b b' te ds R) (hl : xs.length < 100000) (k : ∀ d, R d → E.nx (ds.set i (.own (xs ++ [d]))) b') :
    Wt G b (tDrop (tBM G.K "list" rAppend (tVar i) (tCons te tNil))) ds E := fun gs M H σ S Dn w => by
  obtain ⟨a, vs, hσ, m, ha, r, n0⟩ := S.ownL hi
  refine ⟨.ref a, hσ, .inl ⟨rfl, vs, SqL.of ha⟩, ?_⟩
  refine h gs M H σ S _ fun v d H' rd e l rp => ?_
  have S' := S.step e l
  have ha' : H' a = some (.lst vs) := e.keep _ _ ha fun _ z => nomatch z
  refine ⟨a, vs, v, rfl, rfl, ha', by rw [r.length]; exact Nat.lt_of_lt_of_le hl (by decide), ?_⟩
  exact w.nx M b' _ σ _ (S'.chg hi hσ ((r.mono (msk_mono e.toKp)).append (.cons rp .nil))) (k d rd)
theorem w_app {xs : List D} (hi : ds[i]? = some (.own xs)) (h : EvD G true b b' te ds d) (hl : xs.length < 100000) (k : E.nx (ds.set i (.own (xs ++ [d]))) b') :
    Wt G b (tDrop (tBM G.K "list" rAppend (tVar i) (tCons te tNil))) ds E := ws_app hi h hl fun _ e => by rw [e]; exact k
end

/-! ### defs by data -/
structure Fd where
  n : Nat
  dom : List D → Prop
  cost : List D → Nat := fun _ => 0
  res : List D → D → Prop
  exn : List D → Addr → List (Str × D) → Prop := fun _ _ _ => False
  own : Bool := false
  own2 : Nat := 0
def SpD (K : PySem.W.Frag) (F : Fd) : Sp := fun vs H Q E => ∃ (ds : List D) (N : Addr → Prop) (b : Nat), (∀ a, N a → H a ≠ none) ∧ Lim (F.cost ds + b) H ∧ RpA K (msk N H) vs ds ∧ ds.length = F.n ∧ F.dom ds ∧
  (∀ v d H', F.res ds d → Ext H H' → Lim b H' → Rp K (msk N H') v d → (F.own = true → OwnX F.own2 K N H H' v d) → Q v H') ∧
  (∀ C dd fsV fs H', F.exn ds C fs → Ext H H' → Lim b H' → H dd = none → H' dd = some (.xd fsV) → RpF K (msk N H') fsV fs → E (.ref C) (some dd) H')
theorem SpD.len {K : PySem.W.Frag} {F : Fd} {ps : List Str} (h : ps.length = F.n) : ∀ vs H Q E, SpD K F vs H Q E → vs.length = ps.length := fun vs H Q E ⟨ds, N, b, h1, h2, h3, h4, h5⟩ => by
  rw [h3.length, h4, h]
/-- the entry of a def's body -/
abbrev gOf (K : PySem.W.Frag) (H : Hp) (N : Addr → Prop) (E : XK) (F : Fd) (ds : List D) (b : Nat) : Gx := ⟨K, H, N, WD E, fun C fs _ b' => b ≤ b' ∧ F.exn ds C fs, false⟩
abbrev eOf (F : Fd) (ds : List D) (b : Nat) : DE := { nx := fun _ b' => b ≤ b' ∧ F.res ds .non ∧ F.own = false, rt := fun d _ b' => b ≤ b' ∧ F.res ds d, ro := F.own, ro2 := F.own2 }
def slots (N : Nat) (ds : List D) : List Sd := ds.map Sd.dat ++ List.replicate (N - ds.length) .un
theorem start_stt {K : PySem.W.Frag} {H : Hp} {N : Addr → Prop} {b : Nat} {names : List Str} {vs : List V} {ds : List D} (hN : ∀ a, N a → H a ≠ none) (hl : Lim b H) (r : RpA K (msk N H) vs ds) : Stt K H N [] N b H (L2.start names vs) (slots names.length ds) := by
  have len : (L2.start names vs).length = (slots names.length ds).length := by
    unfold L2.start slots
    rw [List.length_append, List.length_append, List.length_map, List.length_map, List.length_replicate, List.length_replicate, r.length]
  have noOwn : ∀ (j : Nat) (e : Sd), (slots names.length ds)[j]? = some e → isOwn e = true → False := fun j e h1 h2 => by
    have hm := List.mem_of_getElem? h1
    unfold slots at hm
    rcases List.mem_append.mp hm with q | q
    · obtain ⟨d, _, e1⟩ := List.mem_map.mp q
      rw [← e1] at h2
      cases h2
    · rw [(List.mem_replicate.mp q).2] at h2
      cases h2
  refine ⟨Ext.refl H, fun _ h => h, fun a h n => absurd h n, hN, hl, len, fun i s d h1 h2 => ?_, fun i j a ⟨_, d, _, h2, h3⟩ _ => (noOwn i d h2 (adr_own h3)).elim, fun i a ⟨_, d, _, h2, h3⟩ => (noOwn i d h2 (adr_own h3)).elim, fun q hq => by cases hq⟩
  by_cases hi : i < ds.length
  · unfold slots at h2
    rw [List.getElem?_append_left (by rw [List.length_map]; exact hi), List.getElem?_map, List.getElem?_eq_getElem hi] at h2
    cases h2
    obtain ⟨v, e, rv⟩ := r.getD (List.getElem?_eq_getElem hi)
    unfold L2.start at h1
    rw [List.getElem?_append_left (by rw [List.length_map, r.length]; exact hi), List.getElem?_map, e] at h1
    cases h1
    exact ⟨v, rfl, rv⟩
  · unfold slots at h2
    rw [List.getElem?_append_right (by rw [List.length_map]; omega)] at h2
    have e := (List.mem_replicate.mp (List.mem_of_getElem? h2)).2
    rw [e]
    trivial
theorem gOf_acc {K : PySem.W.Frag} {H : Hp} {N : Addr → Prop} {E : XK} {F : Fd} {ds : List D} {b : Nat}
    (hx : ∀ C dd fsV fs H', F.exn ds C fs → Ext H H' → Lim b H' → H dd = none → H' dd = some (.xd fsV) → RpF K (msk N H') fsV fs → E (.ref C) (some dd) H') : (gOf K H N E F ds b).Acc :=
  fun gs M b' H' σ sd C dd fsV fs S h1 h2 _ h3 ⟨h4, h5⟩ => hx C dd fsV fs H' h5 S.ext (S.lim.mono h4) h2 h1 h3
section
variable {P : Program} {w : World} {K : PySem.W.Frag} {mg : Str → Option Value} {base : Heap}
/-- THE RULE for a def -/
theorem fn_data {x qual : Str} {st : Stmt} {f : Addr} {fd : FuncData} {N ps : List Str} {k : Nat} {F : Fd} {dvs : List V} {kws : List (Str × V)} (U : FunD K x qual (defArgs st) (defBody st) (defScope st) dvs kws f fd ∨ Fun K x qual st f fd) (S : FnScope N ps (defScope st)) (hn : ps.length = F.n)
    (hbody : ∀ (cdv : Value) (A : Around) (outer : List Env) (s : Shared) (H : Hp) (E : XK), Room k (A.deeper (envOfC qual (defScope st) s.heap.objs.size f cdv)) →
      Takes (cxOf (L2.CX P w) P w K mg base N qual (defScope st) f cdv A outer s H E) (WD E) →
      ∃ t, PSs (cxOf (L2.CX P w) P w K mg base N qual (defScope st) f cdv A outer s H E) (defBody st) t ∧
        ∀ (ds : List D) (N' : Addr → Prop) (b : Nat), ds.length = F.n → F.dom ds → (gOf K H N' E F ds b).Acc → Wt (gOf K H N' E F ds b) (F.cost ds + b) t (slots N.length ds) (eOf F ds b)) :
    FnOk P w K mg base (L2.CX P w) (k + 1) f fd ps (SpD K F) := by
  have main : ∀ (cdv : Value) (A : Around) (outer : List Env) (s : Shared) (H : Hp) (vs : List V) (Q : VK) (E : XK), Room k (A.deeper (envOfC qual (defScope st) s.heap.objs.size f cdv)) → SpD K F vs H Q E →
      ∃ t, PSs (cxOf (L2.CX P w) P w K mg base N qual (defScope st) f cdv A outer s H E) (defBody st) t ∧ t { nx := fun _ H' => Q .non H', rt := Q } (L2.start N vs) H := by
    intro cdv A outer s H vs Q E hr hsp
    obtain ⟨t, h1, h2⟩ := hbody cdv A outer s H E hr (takes_of (E := E) rfl rfl rfl rfl)
    obtain ⟨ds, N', b, a1, a2, a3, a4, a5, a6, a7⟩ := hsp
    refine ⟨t, h1, h2 ds N' b a4 a5 (gOf_acc a7) [] N' H _ (start_stt a1 a2 a3) _ ⟨fun M b' H' σ' ds' S' e => ?_, fun M b' H' σ' ds' v d S' e rp ro => ?_, fun _ _ _ _ _ _ e => e.elim, fun _ _ _ _ _ _ e => e.elim⟩⟩
    · exact a6 .non .non H' e.2.1 S'.ext (S'.lim.mono e.1) .non fun z => by rw [e.2.2] at z; cases z
    · exact a6 v d H' e.2 S'.ext (S'.lim.mono e.1) rp ro
  rcases U with U | U
  · exact U.ok S (SpD.len hn) main
  · obtain ⟨oc, od, kV, doc, pm, an, cdv, ct, osl, rfl, lk, hcd⟩ := U.ex
    exact fn_of lk hcd S (SpD.len hn) fun A outer s H vs Q E hr hsp => main cdv A outer s H vs Q E hr hsp
end
/-! ### calls of them -/
section
variable {G : Gx} {p : Bool} {b b' b1 b2 : Nat} {t tk : TA} {ds : List Sd} {F : Fd} {n m : Nat} {gV : List V → List V → List V} {gD : List D → List D → List D} {E : L2.St → XK} {es fs : List D}
/-- f(..), an own def; nothing raised -/
theorem evs_cl {Ra : List D → Prop} (ha : EvA G p b b1 t ds Ra) (hk : EaD G p b1 b2 tk ds fs) (hg : ∀ (H : Hp) vs zs es fs, RpA G.K H vs es → RpA G.K H zs fs → RpA G.K H (gV vs zs) (gD es fs)) (hm : fs.length = m)
    (h : ∀ es, Ra es → es.length = n ∧ (gD es fs).length = F.n ∧ F.dom (gD es fs) ∧ F.cost (gD es fs) + b' ≤ b2 ∧ ∀ C x, F.exn (gD es fs) C x → E = WE G.W ∧ G.Acc ∧ (G.pm = true → p = true) ∧ G.X C x ds b') :
    EvS G p b b' (tCl n m (SpD G.K F) gV E t tk) ds (fun d => ∃ es, Ra es ∧ F.res (gD es fs) d) := fun gs M H σ S Q k =>
  ha gs M H σ S _ fun vs es' H1 r1 e1 l1 rp1 => hk gs M H1 σ (S.step e1 l1) _ fun zs fs' H2 r2 e2 l2 rp2 => by
    subst r2
    have S2 := (S.step e1 l1).step e2 l2
    obtain ⟨a1, a2, a3, a4, a5⟩ := h es' r1
    refine ⟨by rw [rp1.length, a1], by rw [rp2.length, hm], gD es' fs', mmk p M G.M0, b', S2.mm p, l2.mono a4, hg _ _ _ _ _ (rp1.mono (msk_mono e2.toKp)) rp2, a2, a3, fun v d H3 rd e3 l3 rp3 _ => k v d H3 ⟨es', r1, rd⟩ ((e1.trans e2).trans e3) l3 rp3, fun C dd fsV x H3 rx e3 l3 hd hx rp3 => ?_⟩
    obtain ⟨h1, h2, h3, h4⟩ := a5 C x rx
    subst h1
    have S3 := S2.step e3 l3
    refine h2 gs M b' H3 σ ds C dd fsV x S3 hx (S2.ext.free hd) (fun z => S2.liv dd z hd) ?_ h4
    cases p with
    | true => exact S3.mmF rp3
    | false =>
      cases e : G.pm with
      | true => exact absurd (h3 e) Bool.false_ne_true
      | false => exact rp3
end
end Sh

/-! Sh5: walks by data: for, comprehensions, while. -/
namespace Sh
open PySem PySem.Spec PyProof.Rows L2

/-- what is held while something is walked -/
def Gh (K : PySem.W.Frag) (H0 : Hp) (gs : List (V × D)) (M : Addr → Prop) (H : Hp) : Prop := (∀ q ∈ gs, Rp K (msk M H) q.1 q.2) ∧ (∀ a, M a → H a ≠ none) ∧ Ext H0 H
/-- J walks n items, the i-th one it i, as long as gs is held -/
structure JOk (K : PySem.W.Frag) (H0 : Hp) (J : It) (gs : List (V × D)) (n : Nat) (it : Nat → D) : Prop where
  go : ∀ i M H, Gh K H0 gs M H → i < n → J.go i H
  yld : ∀ i M H, Gh K H0 gs M H → i < n → ∀ x H2, J.yld i H x H2 → Ext H H2 ∧ (∀ b, Lim b H → Lim b H2) ∧ Rp K (msk M H2) x (it i)
  stop : ∀ M H, Gh K H0 gs M H → J.stop n H
def EvI (G : Gx) (b b' : Nat) (wi : TI) (ds : List Sd) (n : Nat) (it : Nat → D) : Prop := ∀ gs M H σ, G.st gs M b H σ ds → ∀ R : It → Hp → Prop,
  (∀ J gs' H', Ext H H' → Lim b' H' → (∀ q ∈ gs', Rp G.K (msk M H') q.1 q.2) → JOk G.K G.H0 J gs' n it → R J H') → wi σ H R
section
variable {G : Gx} {p : Bool} {b b' b1 b2 : Nat} {te : TE} {ta : TA} {ds : List Sd}
theorem itr_ok {K : PySem.W.Frag} {H0 : Hp} {lo : Int} {n : Nat} : JOk K H0 (Itr lo n) [] n (fun i => .int (lo + i)) :=
  ⟨fun i M H _ h => h, fun i M H _ h x H2 ⟨e1, e2⟩ => by subst e1 e2; exact ⟨Ext.refl _, fun _ l => l, .int _⟩, fun M H _ => Nat.le_refl n⟩
theorem ei_r1 {n : Int} (h : EaD G p b b' ta ds [.int n]) (hn : -(2 ^ 62) ≤ n ∧ n < 2 ^ 62) : EvI G b b' (iRng1 ta) ds n.toNat (fun i => .int (i : Int)) := fun gs M H σ S R k =>
  h gs M H σ S _ fun vs es H' r e l rp => by
    subst r
    cases rp with
    | cons r1 r2 => cases r2; cases r1; exact ⟨n, rfl, hn.1, hn.2, k _ [] H' e l (fun q z => by cases z) (by
        have q := itr_ok (K := G.K) (H0 := G.H0) (lo := 0) (n := n.toNat)
        simp only [Int.zero_add] at q
        exact q)⟩
theorem ei_r2 {m n : Int} (h : EaD G p b b' ta ds [.int m, .int n]) (hm : -(2 ^ 62) ≤ m ∧ m < 2 ^ 62 ∧ -(2 ^ 62) ≤ n ∧ n < 2 ^ 62) : EvI G b b' (iRng2 ta) ds (n - m).toNat (fun i => .int (m + i)) := fun gs M H σ S R k =>
  h gs M H σ S _ fun vs es H' r e l rp => by
    subst r
    cases rp with
    | cons r1 r2 => cases r2 with | cons r2 r3 => cases r3; cases r2; cases r1; exact ⟨m, n, rfl, hm, k _ [] H' e l (fun q z => by cases z) itr_ok⟩
theorem ei_list {xs : List D} (h : EvD G true b b' te ds (.lst xs)) : EvI G b b' (iList G.K te) ds xs.length (fun i => xs.getD i .non) := fun gs M H σ S R k =>
  h gs M H σ S _ fun v d H' r e l rp => by
    subst r
    cases id rp with
    | @lst a vs _ ha r =>
      refine ⟨a, rfl, ⟨vs, SqL.of (msk_of ha).2⟩, k _ [(.ref a, .lst xs)] H' e l (fun q z => by rw [List.mem_singleton.mp z]; exact rp) ⟨fun i M1 H1 g hi => ?_, fun i M1 H1 g hi x H2 y => ?_, fun M1 H1 g => ?_⟩⟩
      all_goals
        have g1 := g.1 _ (List.mem_singleton.mpr rfl)
        cases g1 with
        | lst hb rb => _
      · have hi' := hi
        rw [← rb.length] at hi'
        exact ⟨_, _, SqL.of (msk_of hb).2, List.getElem?_eq_getElem hi'⟩
      · obtain ⟨e1, e2⟩ := y
        subst e1
        obtain ⟨d, hd, r2⟩ := rb.get (e2 _ (SqL.of (msk_of hb).2))
        refine ⟨Ext.refl _, fun _ l => l, ?_⟩
        rw [List.getD_eq_getElem?_getD, hd]
        exact r2
      · exact ⟨_, SqL.of (msk_of hb).2, Nat.le_of_eq rb.length⟩
theorem ei_tup {xs : List D} (h : EvD G true b b' te ds (.tup xs)) : EvI G b b' (iTup G.K te) ds xs.length (fun i => xs.getD i .non) := fun gs M H σ S R k =>
  h gs M H σ S _ fun v d H' r e l rp => by
    subst r
    cases id rp with
    | @tup a vs _ ha r =>
      refine ⟨a, rfl, ⟨vs, sqt_unm ha⟩, k _ [(.ref a, .tup xs)] H' e l (fun q z => by rw [List.mem_singleton.mp z]; exact rp) ⟨fun i M1 H1 g hi => ?_, fun i M1 H1 g hi x H2 y => ?_, fun M1 H1 g => ?_⟩⟩
      all_goals
        have g1 := g.1 _ (List.mem_singleton.mpr rfl)
        cases g1 with
        | tup hb rb => _
      · have hi' := hi
        rw [← rb.length] at hi'
        exact ⟨_, _, sqt_unm hb, List.getElem?_eq_getElem hi'⟩
      · obtain ⟨e1, e2⟩ := y
        subst e1
        obtain ⟨d, hd, r2⟩ := rb.get (e2 _ (sqt_unm hb))
        refine ⟨Ext.refl _, fun _ l => l, ?_⟩
        rw [List.getD_eq_getElem?_getD, hd]
        exact r2
      · exact ⟨_, sqt_unm hb, Nat.le_of_eq rb.length⟩
theorem ei_enum {xs : List D} (h : EaD G true b b' ta ds [.lst xs]) : EvI G b b' (iEnum G.K ta) ds xs.length (fun i => .tup [.int (i : Int), xs.getD i .non]) := fun gs M H σ S R k =>
  h gs M H σ S _ fun vs es H' r e l rp => by
    subst r
    cases rp with
    | cons rp r2 =>
      cases r2
      cases id rp with
      | @lst a vs _ ha r =>
        refine ⟨a, vs, rfl, SqL.of (msk_of ha).2, k _ [(.ref a, .lst xs)] H' e l (fun q z => by rw [List.mem_singleton.mp z]; exact rp) ⟨fun i M1 H1 g hi => ?_, fun i M1 H1 g hi x H2 y => ?_, fun M1 H1 g => ?_⟩⟩
        all_goals
          have g1 := g.1 _ (List.mem_singleton.mpr rfl)
          cases g1 with
          | lst hb rb => _
        · have hi' := hi
          rw [← rb.length] at hi'
          exact ⟨_, _, SqL.of (msk_of hb).2, List.getElem?_eq_getElem hi'⟩
        · obtain ⟨T, z, e1, e2, e3, e4⟩ := y
          subst e1 e3
          obtain ⟨d, hd, r2⟩ := rb.get (e4 _ (SqL.of (msk_of hb).2))
          refine ⟨Ext.new e2, fun _ l => l.upd (fun _ z => nomatch z), ?_⟩
          rw [List.getD_eq_getElem?_getD, hd]
          exact new_tup g.2.1 e2 (.cons (.int _) (.cons r2 .nil))
        · exact ⟨_, SqL.of (msk_of hb).2, Nat.le_of_eq rb.length⟩
theorem ei_zip {xs ys : List D} (h : EaD G true b b' ta ds [.lst xs, .lst ys]) : EvI G b b' (RZ.iZipA G.K ta) ds (min xs.length ys.length) (fun i => .tup [xs.getD i .non, ys.getD i .non]) := fun gs M H σ S R k =>
  h gs M H σ S _ fun vs es H' r e l rp => by
    subst r
    cases rp with
    | cons rp r2 =>
      cases r2 with
      | cons rq r3 =>
        cases r3
        cases id rp with
        | @lst a vs _ ha r =>
          cases id rq with
          | @lst c ws _ hc s =>
            refine ⟨a, c, vs, ws, rfl, .inl ⟨SqL.of (msk_of ha).2, SqL.of (msk_of hc).2, k _ [(.ref a, .lst xs), (.ref c, .lst ys)] H' e l (fun q z => ?_) ⟨fun i M1 H1 g hi => ?_, fun i M1 H1 g hi x H2 y => ?_, fun M1 H1 g => ?_⟩⟩⟩
            · rcases List.mem_cons.mp z with z | z
              · rw [z]; exact rp
              · rw [List.mem_singleton.mp z]; exact rq
            all_goals
              have g1 := g.1 (.ref a, .lst xs) List.mem_cons_self
              have g2 := g.1 (.ref c, .lst ys) (List.mem_cons_of_mem _ (List.mem_singleton.mpr rfl))
              cases g1 with
              | lst hb rb => _
              cases g2 with
              | lst hd rd => _
            · have h1 : i < xs.length := Nat.lt_of_lt_of_le hi (Nat.min_le_left _ _)
              have h2 : i < ys.length := Nat.lt_of_lt_of_le hi (Nat.min_le_right _ _)
              rw [← rb.length] at h1
              rw [← rd.length] at h2
              exact ⟨_, _, _, _, SqL.of (msk_of hb).2, SqL.of (msk_of hd).2, List.getElem?_eq_getElem h1, List.getElem?_eq_getElem h2⟩
            · obtain ⟨T, z, u, e1, e2, e3, e4, e5⟩ := y
              subst e1 e3
              obtain ⟨d1, hd1, q1⟩ := rb.get (e4 _ (SqL.of (msk_of hb).2))
              obtain ⟨d2, hd2, q2⟩ := rd.get (e5 _ (SqL.of (msk_of hd).2))
              refine ⟨Ext.new e2, fun _ l => l.upd (fun _ z => nomatch z), ?_⟩
              rw [List.getD_eq_getElem?_getD, hd1, List.getD_eq_getElem?_getD, hd2]
              exact new_tup g.2.1 e2 (.cons q1 (.cons q2 .nil))
            · have h1 := rb.length
              have h2 := rd.length
              exact ⟨_, _, SqL.of (msk_of hb).2, SqL.of (msk_of hd).2, by omega⟩
theorem ei_zipT {xs ys : List D} (h : EaD G true b b' ta ds [.tup xs, .tup ys]) : EvI G b b' (RZ.iZipA G.K ta) ds (min xs.length ys.length) (fun i => .tup [xs.getD i .non, ys.getD i .non]) := fun gs M H σ S R k =>
  h gs M H σ S _ fun vs es H' r e l rp => by
    subst r
    cases rp with
    | cons rp r2 =>
      cases r2 with
      | cons rq r3 =>
        cases r3
        cases id rp with
        | @tup a vs _ ha r =>
          cases id rq with
          | @tup c ws _ hc s =>
            refine ⟨a, c, vs, ws, rfl, .inr ⟨sqt_unm ha, sqt_unm hc, k _ [(.ref a, .tup xs), (.ref c, .tup ys)] H' e l (fun q z => ?_) ⟨fun i M1 H1 g hi => ?_, fun i M1 H1 g hi x H2 y => ?_, fun M1 H1 g => ?_⟩⟩⟩
            · rcases List.mem_cons.mp z with z | z
              · rw [z]; exact rp
              · rw [List.mem_singleton.mp z]; exact rq
            all_goals
              have g1 := g.1 (.ref a, .tup xs) List.mem_cons_self
              have g2 := g.1 (.ref c, .tup ys) (List.mem_cons_of_mem _ (List.mem_singleton.mpr rfl))
              cases g1 with
              | tup hb rb => _
              cases g2 with
              | tup hd rd => _
            · have h1 : i < xs.length := Nat.lt_of_lt_of_le hi (Nat.min_le_left _ _)
              have h2 : i < ys.length := Nat.lt_of_lt_of_le hi (Nat.min_le_right _ _)
              rw [← rb.length] at h1
              rw [← rd.length] at h2
              exact ⟨_, _, _, _, sqt_unm hb, sqt_unm hd, List.getElem?_eq_getElem h1, List.getElem?_eq_getElem h2⟩
            · obtain ⟨T, z, u, e1, e2, e3, e4, e5⟩ := y
              subst e1 e3
              obtain ⟨d1, hd1, q1⟩ := rb.get (e4 _ (sqt_unm hb))
              obtain ⟨d2, hd2, q2⟩ := rd.get (e5 _ (sqt_unm hd))
              refine ⟨Ext.new e2, fun _ l => l.upd (fun _ z => nomatch z), ?_⟩
              rw [List.getD_eq_getElem?_getD, hd1, List.getD_eq_getElem?_getD, hd2]
              exact new_tup g.2.1 e2 (.cons q1 (.cons q2 .nil))
            · have h1 := rb.length
              have h2 := rd.length
              exact ⟨_, _, sqt_unm hb, sqt_unm hd, by omega⟩
end

/-! ### targets -/
theorem set_comm' {α : Type} (l : List α) (i j : Nat) (x y : α) (h : i ≠ j) : (l.set i x).set j y = (l.set j y).set i x := List.set_comm x y h
theorem wipe_out (σ : List (Option V)) (j : Nat) (x : Option V) : ∀ vs : List Nat, j ∉ vs → wipe (σ.set j x) vs = (wipe σ vs).set j x
  | [], _ => rfl
  | v :: vs, h => by
    have h1 : v ≠ j := fun e => h (by rw [e]; exact List.mem_cons_self)
    have h2 : j ∉ vs := fun e => h (List.mem_cons_of_mem _ e)
    show (wipe (σ.set j x) vs).set v none = ((wipe σ vs).set v none).set j x
    rw [wipe_out σ j x vs h2, set_comm' _ j v _ _ (Ne.symm h1)]
theorem wipe_in (σ : List (Option V)) (j : Nat) (x : Option V) : ∀ vs : List Nat, j ∈ vs → wipe (σ.set j x) vs = wipe σ vs
  | v :: vs, h => by
    show (wipe (σ.set j x) vs).set v none = (wipe σ vs).set v none
    by_cases h2 : j ∈ vs
    · rw [wipe_in σ j x vs h2]
    · have e : j = v := (List.mem_cons.mp h).resolve_right h2
      rw [wipe_out σ j x vs h2, e, List.set_set]
def TgR (K : PySem.W.Frag) (vs : List Nat) (g : TG) (d : D) (ds ds' : List Sd) : Prop := ∀ H0 M0 gs M b H σ v, Stt K H0 M0 gs M b H σ ds → Rp K (msk M H) v d → ∀ Q : L2.St → Hp → Prop,
  (∀ σ', Stt K H0 M0 gs M b H σ' ds' → wipe σ' vs = wipe σ vs → Q σ' H) → g v σ H Q
def TgsR (K : PySem.W.Frag) (vs : List Nat) (g : TGs) (es : List D) (ds ds' : List Sd) : Prop := ∀ H0 M0 gs M b H σ ws, Stt K H0 M0 gs M b H σ ds → RpA K (msk M H) ws es → ∀ Q : L2.St → Hp → Prop,
  (∀ σ', Stt K H0 M0 gs M b H σ' ds' → wipe σ' vs = wipe σ vs → Q σ' H) → g ws σ H Q
section
variable {K : PySem.W.Frag} {vs : List Nat} {g : TG} {t : TGs} {d : D} {es : List D} {ds ds1 ds2 : List Sd}
theorem tg_name {j : Nat} (h : j ∈ vs := by decide) : TgR K vs (gName j) d ds (ds.set j (.dat d)) := fun H0 M0 gs M b H σ v S r Q k => k _ (S.set r) (wipe_in _ _ _ _ h)
theorem tgs_nil : TgsR K vs gNil [] ds ds := fun H0 M0 gs M b H σ ws S r Q k => by
  cases r
  exact ⟨rfl, k σ S rfl⟩
theorem tgs_cons (h1 : TgR K vs g d ds ds1) (h2 : TgsR K vs t es ds1 ds2) : TgsR K vs (gCons g t) (d :: es) ds ds2 := fun H0 M0 gs M b H σ ws S r Q k => by
  cases r with
  | cons r1 r2 => exact ⟨_, _, rfl, h1 H0 M0 gs M b H σ _ S r1 _ fun σ1 S1 e1 => h2 H0 M0 gs M b H σ1 _ S1 r2 Q fun σ2 S2 e2 => k σ2 S2 (e2.trans e1)⟩
theorem tg_tup {n : Nat} (h : TgsR K vs t es ds ds1) (hl : es.length = n := by rfl) : TgR K vs (gTup K n t) (.tup es) ds ds1 := fun H0 M0 gs M b H σ v S r Q k => by
  cases r with
  | tup hs ha => exact ⟨_, _, rfl, sqt_unm hs, by rw [ha.length, hl], h H0 M0 gs M b H σ _ S ha Q k⟩
end
/-- target = e, a tuple's parts within -/
theorem ws_tgt {G : Gx} {b b' : Nat} {te : TE} {g : TG} {vs : List Nat} {ds : List Sd} {R : D → Prop} {E : DE} (h : EvS G true b b' te ds R) (k : ∀ d, R d → ∃ ds', TgR G.K vs g d ds ds' ∧ E.nx ds' b') : Wt G b (tAsg te g) ds E := fun gs M H σ S Dn w =>
  h gs M H σ S _ fun v d H' r e l rp => by
    obtain ⟨ds', h1, h2⟩ := k d r
    exact h1 _ _ gs M b' H' σ v (S.step e l) rp _ fun σ' S' _ => w.nx M b' H' σ' ds' S' h2
theorem w_tgt {G : Gx} {b b' : Nat} {te : TE} {g : TG} {vs : List Nat} {ds ds' : List Sd} {d : D} {E : DE} (h : EvD G true b b' te ds d) (t : TgR G.K vs g d ds ds') (k : E.nx ds' b') : Wt G b (tAsg te g) ds E :=
  ws_tgt h fun x e => ⟨ds', by rw [e]; exact t, k⟩

/-! ### for -/
theorem Stt.ghosts {K : PySem.W.Frag} {H0 H : Hp} {M0 M : Addr → Prop} {b : Nat} {σ : List (Option V)} {ds : List Sd} {gs : List (V × D)} (S : Stt K H0 M0 gs M b H σ ds) {hs : List (V × D)} (h : ∀ q ∈ hs, Rp K (msk M H) q.1 q.2) : Stt K H0 M0 (hs ++ gs) M b H σ ds :=
  ⟨S.ext, S.m0, S.new, S.liv, S.lim, S.len, S.sl, S.inj, S.ownNew, fun q hq => (List.mem_append.mp hq).elim (h q) (S.gh q)⟩
theorem Stt.unghosts {K : PySem.W.Frag} {H0 H : Hp} {M0 M : Addr → Prop} {b : Nat} {σ : List (Option V)} {ds : List Sd} {gs hs : List (V × D)} (S : Stt K H0 M0 (hs ++ gs) M b H σ ds) : Stt K H0 M0 gs M b H σ ds :=
  ⟨S.ext, S.m0, S.new, S.liv, S.lim, S.len, S.sl, S.inj, S.ownNew, fun q hq => S.gh q (List.mem_append_right _ hq)⟩
theorem Stt.gh' {K : PySem.W.Frag} {H0 H : Hp} {M0 M : Addr → Prop} {b : Nat} {σ : List (Option V)} {ds : List Sd} {gs hs : List (V × D)} (S : Stt K H0 M0 (hs ++ gs) M b H σ ds) : Gh K H0 hs M H := ⟨fun q hq => S.gh q (List.mem_append_left _ hq), S.liv, S.ext⟩
theorem Wants.ghosts {G : Gx} {gs hs : List (V × D)} {E : DE} {Dn : Ends} (w : Wants G gs E Dn) : Wants G (hs ++ gs) E Dn :=
  ⟨fun M b H σ ds S e => w.nx M b H σ ds S.unghosts e, fun M b H σ ds v d S e r o => w.rt M b H σ ds v d S.unghosts e r o, fun M b H σ ds S e => w.bk M b H σ ds S.unghosts e, fun M b H σ ds S e => w.ct M b H σ ds S.unghosts e⟩
/-- for .. in ..: I what holds ahead of turn i -/
theorem w_for {G : Gx} {b b1 : Nat} {wi : TI} {g : TG} {tb : TS} {ds : List Sd} {E : DE} {n : Nat} {it : Nat → D} (vs : List Nat) (I : Nat → List Sd → Nat → Prop) (hi : EvI G b b1 wi ds n it) (h0 : I 0 ds b1)
    (hs : ∀ i ds' b', i < n → I i ds' b' → ∃ ds'', TgR G.K vs g (it i) ds' ds'' ∧ Wt G b' tb ds'' { E with nx := I (i + 1), ct := I (i + 1), bk := E.nx }) (hd : ∀ ds' b', I n ds' b' → E.nx ds' b') : Wt G b (tFor wi g tb) ds E := fun gs M H σ S Dn w =>
  hi gs M H σ S _ fun J gs' H' e l hg ok => by
    have S1 : Stt G.K G.H0 G.M0 (gs' ++ gs) M b1 H' σ ds := (S.step e l).ghosts hg
    refine ⟨fun i m σ H => m = n - i ∧ i ≤ n ∧ ∃ M b ds', Stt G.K G.H0 G.M0 (gs' ++ gs) M b H σ ds' ∧ I i ds' b, ⟨n, by omega, Nat.zero_le _, M, b1, ds, S1, h0⟩, ?_⟩
    rintro i m σ2 H2 ⟨rfl, hn, M2, b2, ds2, S2, i2⟩
    by_cases hlt : i < n
    · refine .inr ⟨ok.go i M2 H2 S2.gh' hlt, fun σ H => ∃ M b ds', Stt G.K G.H0 G.M0 (gs' ++ gs) M b H σ ds' ∧ I (i + 1) ds' b, fun σ' H' z => ⟨n - (i + 1), by omega, rfl, hlt, z⟩, fun x H3 y => ?_⟩
      obtain ⟨x1, x2, x3⟩ := ok.yld i M2 H2 S2.gh' hlt x H3 y
      obtain ⟨ds'', t1, t2⟩ := hs i ds2 b2 hlt i2
      refine t1 _ _ _ M2 b2 H3 σ2 x (S2.step x1 (x2 _ S2.lim)) x3 _ fun σ4 S4 _ => ?_
      exact t2 _ M2 H3 σ4 S4 _ ⟨fun M b H σ ds S e => ⟨M, b, ds, S, e⟩, fun M b H σ ds v d S e r o => w.rt M b H σ ds v d S.unghosts e r o, fun M b H σ ds S e => w.nx M b H σ ds S.unghosts e, fun M b H σ ds S e => ⟨M, b, ds, S, e⟩⟩
    · have en : i = n := by omega
      subst en
      exact .inl ⟨ok.stop M2 H2 S2.gh', w.nx M2 b2 H2 σ2 ds2 S2.unghosts (hd ds2 b2 i2)⟩
/-- while ..: I holds ahead of each turn, μ falls -/
theorem w_while {G : Gx} {b : Nat} {tc : TT} {tb : TS} {ds : List Sd} {E : DE} (I : Nat → List Sd → Nat → Prop) (m0 : Nat) (h0 : I m0 ds b)
    (hs : ∀ m ds' b', I m ds' b' → ∃ c : Bool, EtD G b' b' tc ds' c ∧ (c = true → Wt G b' tb ds' { E with nx := fun ds2 b2 => ∃ m', m' < m ∧ I m' ds2 b2, ct := fun ds2 b2 => ∃ m', m' < m ∧ I m' ds2 b2, bk := E.nx }) ∧ (c = false → E.nx ds' b')) : Wt G b (tWhile tc tb) ds E := fun gs M H σ S Dn w => by
  refine ⟨fun m σ H => ∃ M b ds', Stt G.K G.H0 G.M0 gs M b H σ ds' ∧ I m ds' b, ⟨m0, M, b, ds, S, h0⟩, ?_⟩
  rintro m σ2 H2 ⟨M2, b2, ds2, S2, i2⟩
  obtain ⟨c, h1, h2, h3⟩ := hs m ds2 b2 i2
  refine h1 gs M2 H2 σ2 S2 _ fun c' H3 r e l => ?_
  subst r
  have S3 := S2.step e l
  cases c' with
  | true =>
    refine ⟨fun σ H => ∃ m', m' < m ∧ ∃ M b ds', Stt G.K G.H0 G.M0 gs M b H σ ds' ∧ I m' ds' b, fun σ' H' z => z, ?_⟩
    exact h2 rfl gs M2 H3 σ2 S3 _ ⟨fun M b H σ ds S ⟨m', z1, z2⟩ => ⟨m', z1, M, b, ds, S, z2⟩, w.rt, w.nx, fun M b H σ ds S ⟨m', z1, z2⟩ => ⟨m', z1, M, b, ds, S, z2⟩⟩
  | false => exact w.nx M2 b2 H3 σ2 ds2 S3 (h3 rfl)

/-! ### comprehensions -/
def wipeD (ds : List Sd) : List Nat → List Sd
  | [] => ds
  | v :: vs => (wipeD ds vs).set v .un
theorem Stt.wipe {K : PySem.W.Frag} {H0 H : Hp} {M0 M : Addr → Prop} {b : Nat} {σ : List (Option V)} {ds : List Sd} {gs : List (V × D)} (S : Stt K H0 M0 gs M b H σ ds) : ∀ vs : List Nat, Stt K H0 M0 gs M b H (L2.wipe σ vs) (wipeD ds vs)
  | [] => S
  | v :: vs => (Stt.wipe S vs).forget v none
/-- a list that is being made -/
theorem Stt.grow {K : PySem.W.Frag} {H0 H H' : Hp} {M0 M : Addr → Prop} {b b' : Nat} {σ : List (Option V)} {ds : List Sd} {gs : List (V × D)} (S : Stt K H0 M0 gs M b H σ ds) {p : Addr} (hp : H p = none) (e : Ext H H') (l : Lim b' H') (hl : H' p ≠ none) :
    Stt K H0 M0 gs (fun a => M a ∨ a = p) b' H' σ ds := S.growP (P := fun a => a = p) (fun a h => by rw [h]; exact hp) e l fun a h => by rw [h]; exact hl
/-! ### lists that nothing else knows -/
def EvO (G : Gx) (b b' : Nat) (te : TE) (ds : List Sd) (R : List D → Prop) : Prop :=
  ∀ gs M H σ, G.st gs M b H σ ds → ∀ Q : VK, (∀ a vs xs H', R xs → Ext H H' → Lim b' H' → H a = none → H' a = some (.lst vs) → RpA G.K (msk (fun c => M c ∨ c = a) H') vs xs → Q (.ref a) H') → te σ H Q
abbrev EoD (G : Gx) (b b' : Nat) (te : TE) (ds : List Sd) (xs : List D) : Prop := EvO G b b' te ds (fun x => x = xs)
theorem EvO.imp {G : Gx} {b b' : Nat} {te : TE} {ds : List Sd} {R R' : List D → Prop} (h : EvO G b b' te ds R) (i : ∀ xs, R xs → R' xs) : EvO G b b' te ds R' := fun gs M H σ S Q k => h gs M H σ S Q fun a vs xs H' r => k a vs xs H' (i xs r)
theorem EvO.evs {G : Gx} {p : Bool} {b b' : Nat} {te : TE} {ds : List Sd} {R : List D → Prop} (h : EvO G b b' te ds R) : EvS G p b b' te ds (fun d => ∃ xs, d = .lst xs ∧ R xs) := fun gs M H σ S Q k =>
  h gs M H σ S Q fun a vs xs H' r e l hn ha rr => by
    have nM : ¬ M a := fun z => S.liv a z hn
    refine k _ _ H' ⟨xs, rfl, r⟩ e l (.lst ?_ (rr.mono (msk_sub fun c hc => ?_)))
    · rw [msk_no]
      · exact ha
      · cases p with
        | true => exact nM
        | false => exact fun z => nM (S.m0 a z)
    · cases p with
      | true => exact .inl hc
      | false => exact .inl (S.m0 c hc)
theorem EvO.evd {G : Gx} {p : Bool} {b b' : Nat} {te : TE} {ds : List Sd} {xs : List D} (h : EoD G b b' te ds xs) : EvD G p b b' te ds (.lst xs) := (EvO.evs h).imp fun d ⟨ys, e1, e2⟩ => by rw [e1, e2]
theorem Stt.adopt {K : PySem.W.Frag} {H0 H H' : Hp} {M0 M : Addr → Prop} {b b' : Nat} {σ : List (Option V)} {ds : List Sd} {gs : List (V × D)} {i : Nat} {p : Addr} {vs : List V} {xs : List D} (S : Stt K H0 M0 gs M b H σ ds) (hp : H p = none) (e : Ext H H') (l : Lim b' H') (hl : H' p = some (.lst vs))
    (r : RpA K (msk (fun a => M a ∨ a = p) H') vs xs) : Stt K H0 M0 gs (fun a => M a ∨ a = p) b' H' (σ.set i (some (.ref p))) (ds.set i (.own xs)) :=
  S.adoptG (P := fun a => a = p) (fun a h => by rw [h]; exact hp) e l (fun a h => by rw [h, hl]; exact fun z => nomatch z) ⟨p, vs, rfl, .inr rfl, hl, r⟩ fun a h => by cases h; rfl
section
variable {G : Gx} {p : Bool} {b b' b1 b2 : Nat} {te ta tb : TE} {tA : TA} {ds : List Sd} {R : List D → Prop} {E : DE} {i : Nat}
/-- name = .., our own from now on -/
theorem ws_ownE (h : EvO G b b' te ds R) (k : ∀ xs, R xs → E.nx (ds.set i (.own xs)) b') : Wt G b (tAsg te (gName i)) ds E := fun gs M H σ S Dn w =>
  h gs M H σ S _ fun a vs xs H' r e l hn ha rr => w.nx _ b' H' _ _ (S.adopt hn e l ha rr) (k xs r)
theorem w_ownE {xs : List D} (h : EoD G b b' te ds xs) (k : E.nx (ds.set i (.own xs)) b') : Wt G b (tAsg te (gName i)) ds E := ws_ownE h fun ys e => by rw [e]; exact k
/-- return of what nothing else knows -/
theorem ws_retE (h : EvO G b b' te ds R) (k : ∀ xs, R xs → E.rt (.lst xs) ds b') (ho : E.ro2 = 0 := by rfl) : Wt G b (tRet te) ds E := fun gs M H σ S Dn w =>
  h gs M H σ S _ fun a vs xs H' r e l hn ha rr => by
    have nM : ¬ M a := fun z => S.liv a z hn
    have rm : RpA G.K (msk (fun c => G.M0 c ∨ c = a) H') vs xs := rr.mono (msk_sub fun c hc => hc.elim (fun z => .inl (S.m0 c z)) .inr)
    exact w.rt M b' H' σ ds _ _ (S.step e l) (k xs r) (.lst (by rw [msk_no fun z => nM (S.m0 a z)]; exact ha) (rm.mono (msk_sub fun c hc => .inl hc))) fun _ => (by rw [ho]; exact ⟨a, vs, xs, rfl, rfl, S.ext.free hn, ha, rm⟩)
theorem w_retE {xs : List D} (h : EoD G b b' te ds xs) (k : E.rt (.lst xs) ds b') (ho : E.ro2 = 0 := by rfl) : Wt G b (tRet te) ds E := ws_retE h (fun ys e => by rw [e]; exact k) ho
/-- return of our own -/
theorem w_retO {xs : List D} (hi : ds[i]? = some (.own xs)) (k : E.rt (.lst xs) ds b) (ho : E.ro2 = 0 := by rfl) : Wt G b (tRet (tVar i)) ds E := fun gs M H σ S Dn w => by
  obtain ⟨a, vs, hσ, m, ha, r, n0⟩ := S.ownL hi
  have rm : RpA G.K (msk (fun c => G.M0 c ∨ c = a) H) vs xs := r.mono (msk_sub fun c hc => hc.elim (S.m0 c) fun z => by rw [z]; exact m)
  exact ⟨.ref a, hσ, w.rt M b H σ ds _ _ S k (.lst (by rw [msk_no n0]; exact ha) (rm.mono (msk_sub fun c hc => .inl hc))) fun _ => (by rw [ho]; exact ⟨a, vs, xs, rfl, rfl, S.new a m n0, ha, rm⟩)⟩
theorem eo_new {H H' : Hp} {M : Addr → Prop} {K : PySem.W.Frag} {a : Addr} {vs : List V} {xs : List D} (hn : H a = none) (r : RpA K (msk M H) vs xs) : RpA K (msk (fun c => M c ∨ c = a) (upd H a (.lst vs))) vs xs := r.mono (Kp.sub fun c o h => by
  obtain ⟨h1, h2⟩ := msk_of h
  have nc : c ≠ a := ne_of_none h2 hn
  rw [msk_no fun z => z.elim h1 nc, upd_ne nc]
  exact h2)
theorem eos_lst (h : EvA G true b b' tA ds R) (hl : ∀ xs, R xs → xs.length ≤ 100000) : EvO G b b' (tLst tA) ds R := fun gs M H σ S Q k =>
  h gs M H σ S _ fun vs es H1 r1 e1 l1 rp => ⟨by rw [rp.length]; exact Nat.le_trans (hl es r1) (by decide), fun a ha => k a vs es _ r1 (e1.trans (Ext.new ha)) (l1.upd fun _ z => nomatch z) (e1.free ha) upd_same (eo_new (H' := H1) ha rp)⟩
theorem eo_lst {es : List D} (h : EaD G true b b' tA ds es) (hl : es.length ≤ 100000 := by decide) : EoD G b b' (tLst tA) ds es := eos_lst h fun xs e => by rw [e]; exact hl
end
/-- what a comprehension makes: P i acc: what may be made of the first i items -/
theorem eos_lc {G : Gx} {b b1 b' : Nat} {wi : TI} {g : TG} {tt : TT} {te : TE} {vs : List Nat} {ds : List Sd} {n : Nat} {it : Nat → D} (c : Nat) (P : Nat → List D → Prop) (hi : EvI G b b1 wi ds n it) (hn : n ≤ 100000) (h0 : P 0 [])
    (hs : ∀ i acc, i < n → P i acc → ∃ ds'', TgR G.K vs g (it i) (wipeD ds vs) ds'' ∧ ∀ b0, ∃ kp : Bool, EtD G (b0 + c) (b0 + c) tt ds'' kp ∧ (kp = true → EvS G true (b0 + c) b0 te ds'' (fun d => P (i + 1) (acc ++ [d]))) ∧ (kp = false → P (i + 1) acc))
    (hl : ∀ acc, P n acc → acc.length ≤ n) (hm : ∀ i acc, P i acc → acc.length ≤ i) (hb : b' + n * c ≤ b1) : EvO G b b' (tLc wi g tt te vs) ds (P n) := fun gs M H σ S Q k =>
  hi gs M H σ S _ fun J gs' H1 e l hg ok => fun D hD => by
    have S1 : Stt G.K G.H0 G.M0 (gs' ++ gs) M b1 H1 σ ds := (S.step e l).ghosts hg
    have nMD : ¬ M D := fun z => S1.liv D z hD
    refine ⟨fun i m H => m = n - i ∧ i ≤ n ∧ ∃ acc es, Ext H1 H ∧ Lim (b' + (n - i) * c) H ∧ H D = some (.lst acc) ∧ RpA G.K (msk (fun a => M a ∨ a = D) H) acc es ∧ P i es, ⟨n, by omega, Nat.zero_le _, [], [], Ext.new hD, (S1.lim.mono hb).upd (fun _ z => nomatch z), upd_same, .nil, h0⟩, ?_⟩
    rintro i m H2 ⟨rfl, hin, acc, es, e2, l2, hacc, racc, p2⟩
    have S2 : Stt G.K G.H0 G.M0 (gs' ++ gs) (fun a => M a ∨ a = D) (b' + (n - i) * c) H2 σ ds := S1.grow hD e2 l2 (by rw [hacc]; exact fun z => nomatch z)
    by_cases hlt : i < n
    · refine .inr ⟨ok.go i _ H2 S2.gh' hlt, fun H => ∃ acc es, Ext H1 H ∧ Lim (b' + (n - (i + 1)) * c) H ∧ H D = some (.lst acc) ∧ RpA G.K (msk (fun a => M a ∨ a = D) H) acc es ∧ P (i + 1) es, fun H' z => ⟨n - (i + 1), by omega, rfl, hlt, z⟩, fun x H3 y => ?_⟩
      obtain ⟨x1, x2, x3⟩ := ok.yld i _ H2 S2.gh' hlt x H3 y
      obtain ⟨ds'', t1, t2⟩ := hs i es hlt p2
      have ec : b' + (n - i) * c = (b' + (n - (i + 1)) * c) + c := by
        have e3 : n - i = (n - (i + 1)) + 1 := by omega
        rw [e3, Nat.add_mul, Nat.one_mul, Nat.add_assoc]
      have S3 := (S2.step x1 (x2 _ S2.lim)).wipe vs
      rw [ec] at S3
      refine t1 _ _ _ _ _ H3 _ x S3 x3 _ fun σ4 S4 ew => ⟨?_, ?_⟩
      · rw [ew]
        have ww : ∀ ws : List Nat, (∀ v ∈ ws, v ∈ vs) → L2.wipe (L2.wipe σ ws) vs = L2.wipe σ vs := fun ws => by
          induction ws with
          | nil => intro _; rfl
          | cons v ws ih =>
            intro hv
            show L2.wipe ((L2.wipe σ ws).set v none) vs = L2.wipe σ vs
            rw [wipe_in _ _ _ _ (hv v List.mem_cons_self), ih fun u hu => hv u (List.mem_cons_of_mem _ hu)]
        exact ww vs fun _ h => h
      · obtain ⟨kp, q1, q2, q3⟩ := t2 (b' + (n - (i + 1)) * c)
        refine q1 _ _ H3 σ4 S4 _ fun kp' H4 r4 e4 l4 => ?_
        subst r4
        have hacc4 : H4 D = some (.lst acc) := e4.keep _ _ (x1.keep _ _ hacc fun _ z => nomatch z) fun _ z => nomatch z
        cases kp' with
        | false =>
          show ∃ acc es, _
          exact ⟨acc, es, (e2.trans x1).trans e4, l4.mono (Nat.le_add_right _ _), hacc4, (racc.mono (msk_mono x1.toKp)).mono (msk_mono e4.toKp), q3 rfl⟩
        | true =>
          show te σ4 H4 _
          refine q2 rfl _ _ H4 σ4 (S4.step e4 l4) _ fun v d H5 r5 e5 l5 rp5 => ?_
          have hacc5 : H5 D = some (.lst acc) := e5.keep _ _ hacc4 fun _ z => nomatch z
          have len : acc.length ≤ n := by
            rw [racc.length]
            exact Nat.le_trans (hm i es p2) hin
          refine ⟨acc, hacc5, Nat.lt_of_le_of_lt (Nat.le_trans len hn) (by decide), acc ++ [v], es ++ [d], ?_, l5.upd (fun _ z => nomatch z), upd_same, ?_, r5⟩
          · exact (((e2.trans x1).trans e4).trans e5).mut hD
          · rw [msk_upd (.inr rfl)]
            exact (((racc.mono (msk_mono x1.toKp)).mono (msk_mono e4.toKp)).mono (msk_mono e5.toKp)).append (.cons rp5 .nil)
    · have en : i = n := by omega
      subst en
      refine .inl ⟨ok.stop _ H2 S2.gh', ?_⟩
      exact k D acc es H2 p2 (e.trans e2) (by have q := l2; rw [Nat.sub_self, Nat.zero_mul] at q; exact q) (e.free hD) hacc racc
theorem evs_lc {G : Gx} {p : Bool} {b b1 b' : Nat} {wi : TI} {g : TG} {tt : TT} {te : TE} {vs : List Nat} {ds : List Sd} {n : Nat} {it : Nat → D} (c : Nat) (P : Nat → List D → Prop) (hi : EvI G b b1 wi ds n it) (hn : n ≤ 100000) (h0 : P 0 [])
    (hs : ∀ i acc, i < n → P i acc → ∃ ds'', TgR G.K vs g (it i) (wipeD ds vs) ds'' ∧ ∀ b0, ∃ kp : Bool, EtD G (b0 + c) (b0 + c) tt ds'' kp ∧ (kp = true → EvS G true (b0 + c) b0 te ds'' (fun d => P (i + 1) (acc ++ [d]))) ∧ (kp = false → P (i + 1) acc))
    (hl : ∀ acc, P n acc → acc.length ≤ n) (hm : ∀ i acc, P i acc → acc.length ≤ i) (hb : b' + n * c ≤ b1) : EvS G p b b' (tLc wi g tt te vs) ds (fun d => ∃ acc, d = .lst acc ∧ P n acc) := (eos_lc c P hi hn h0 hs hl hm hb).evs
/-- each item by f, those that kp lets by; nothing drawn -/
theorem ev_lc {G : Gx} {p : Bool} {b b' : Nat} {wi : TI} {g : TG} {tt : TT} {te : TE} {vs : List Nat} {ds : List Sd} {n : Nat} {it : Nat → D} (kp : Nat → Bool) (f : Nat → D) (hi : EvI G b b' wi ds n it) (hn : n ≤ 100000)
    (hs : ∀ i, i < n → ∃ ds'', TgR G.K vs g (it i) (wipeD ds vs) ds'' ∧ ∀ b0, EtD G b0 b0 tt ds'' (kp i) ∧ (kp i = true → EvD G true b0 b0 te ds'' (f i))) : EvD G p b b' (tLc wi g tt te vs) ds (.lst (((List.range n).filter kp).map f)) := by
  refine (evs_lc 0 (fun i acc => acc = ((List.range i).filter kp).map f) hi hn rfl ?_ ?_ ?_ (by omega)).imp fun d ⟨acc, e1, e2⟩ => by rw [e1, e2]
  · intro i acc hlt e
    obtain ⟨ds'', t1, t2⟩ := hs i hlt
    refine ⟨ds'', t1, fun b0 => ⟨kp i, (t2 _).1, fun h => ((t2 b0).2 h).imp fun d ed => ?_, fun h => ?_⟩⟩
    · rw [ed, e, List.range_succ, List.filter_append, List.map_append]
      simp [h]
    · rw [e, List.range_succ, List.filter_append, List.map_append]
      simp [h]
  · intro acc e
    rw [e, List.length_map]
    exact Nat.le_trans (List.length_filter_le _ _) (by rw [List.length_range]; exact Nat.le_refl _)
  · intro i acc e
    rw [e, List.length_map]
    exact Nat.le_trans (List.length_filter_le _ _) (by rw [List.length_range]; exact Nat.le_refl _)
theorem et_yes {G : Gx} {b : Nat} {ds : List Sd} : EtD G b b tYes ds true := fun gs M H σ S Q k => k true H rfl (Ext.refl H) S.lim
/-- without a test -/
theorem ev_lc1 {G : Gx} {p : Bool} {b b' : Nat} {wi : TI} {g : TG} {te : TE} {vs : List Nat} {ds : List Sd} {n : Nat} {it : Nat → D} (f : Nat → D) (hi : EvI G b b' wi ds n it) (hn : n ≤ 100000)
    (hs : ∀ i, i < n → ∃ ds'', TgR G.K vs g (it i) (wipeD ds vs) ds'' ∧ ∀ b0, EvD G true b0 b0 te ds'' (f i)) : EvD G p b b' (tLc wi g tYes te vs) ds (.lst ((List.range n).map f)) := by
  have h := ev_lc (tt := tYes) (p := p) (fun _ => true) f hi hn fun i hlt => let ⟨ds'', t1, t2⟩ := hs i hlt; ⟨ds'', t1, fun b0 => ⟨et_yes, fun _ => t2 b0⟩⟩
  have e : (List.range n).filter (fun _ => true) = List.range n := List.filter_eq_self.mpr fun _ _ => rfl
  rw [e] at h
  exact h
end Sh

/-! Sh6: operators and built-ins by data. -/
namespace Sh
open PySem PySem.Spec PyProof.Rows L2

/-! ### several kinds at once -/
def rAddS : R2 := fun x y H Q => ∃ i j, x = .str i ∧ y = .str j ∧ i.length + j.length ≤ sizeLine ∧ Q (.str (i ++ j)) H
def rAddA (K : PySem.W.Frag) : R2 := fun x y H Q => rI0 (fun i j => V.int (i + j)) x y H Q ∨ rAddS x y H Q ∨ rCat x y H Q ∨ rCatA K x y H Q
def rSubA : R2 := rI0 fun i j => V.int (i - j)
def rMulA : R2 := fun x y H Q => rI CMulW (fun i j => V.int (i * j)) x y H Q ∨ rRep x y H Q
def rDivA : R2 := rI CDivW fun i j => V.int (i / j)
def rModA : R2 := rI (fun _ j => 0 < j) fun i j => V.int (i % j)
def rPowA : R2 := rI CPowW fun i j => V.int (i ^ j.toNat)
def rLtS (f : List Nat → List Nat → Bool) : R2 := fun x y H Q => ∃ i j, x = .str i ∧ y = .str j ∧ Q (.bl (f i.cps.toList j.cps.toList)) H
def rLt : R2 := rI0 fun i j => V.bl (decide (i < j))
def rLe : R2 := rI0 fun i j => V.bl (decide (i ≤ j))
def rGt : R2 := rI0 fun i j => V.bl (decide (j < i))
def rGe : R2 := rI0 fun i j => V.bl (decide (j ≤ i))
section
variable {X : Cx}
theorem op_addA : OpR X (binaryOp .Add) (rAddA X.K) := op_add.or (op_add_str.or (op_cat.or op_catA))
theorem op_subA : OpR X (binaryOp .Sub) rSubA := op_sub
theorem op_mulA : OpR X (binaryOp .Mult) rMulA := op_mulW.or op_rep
theorem op_divA : OpR X (binaryOp .FloorDiv) rDivA := op_fdivW
theorem op_modA : OpR X (binaryOp .Mod) rModA := op_mod
theorem op_powA : OpR X (binaryOp .Pow) rPowA := op_powW
theorem op_ltA : OpR X (compareOp .Lt) rLt := op_lt
theorem op_leA : OpR X (compareOp .LtE) rLe := op_le
theorem op_gtA : OpR X (compareOp .Gt) rGt := op_gt
theorem op_geA : OpR X (compareOp .GtE) rGe := op_ge
end
theorem iop_of {op : Operator} {X : Cx} {r : R2} (h : OpR X (inplaceOp op) r) : PIp X op r := h

/-! ### ints -/
section
variable {K : PySem.W.Frag} {i j : Int}
theorem op2_I0 {g : Int → Int → V} {z : D} (h : ∀ H, Rp K H (g i j) z) : Op2D K (rI0 g) (.int i) (.int j) z := fun N b H v u Q hN l r1 r2 k => by
  cases r1
  cases r2
  exact ⟨i, j, rfl, rfl, k _ _ H rfl (Ext.refl H) l (h _)⟩
theorem op2_I {C : Int → Int → Prop} {g : Int → Int → V} {z : D} (hc : C i j) (h : ∀ H, Rp K H (g i j) z) : Op2D K (rI C g) (.int i) (.int j) z := fun N b H v u Q hN l r1 r2 k => by
  cases r1
  cases r2
  exact ⟨i, j, rfl, rfl, hc, k _ _ H rfl (Ext.refl H) l (h _)⟩
theorem Op2.inl {r r' : R2} {x y : D} {R : D → Prop} (h : Op2 K r x y R) : Op2 K (fun x y H Q => r x y H Q ∨ r' x y H Q) x y R := fun N b H v u Q hN l r1 r2 k => .inl (h N b H v u Q hN l r1 r2 k)
theorem Op2.inr {r r' : R2} {x y : D} {R : D → Prop} (h : Op2 K r' x y R) : Op2 K (fun x y H Q => r x y H Q ∨ r' x y H Q) x y R := fun N b H v u Q hN l r1 r2 k => .inr (h N b H v u Q hN l r1 r2 k)
theorem o_add : Op2D K (rAddA K) (.int i) (.int j) (.int (i + j)) := Op2.inl (op2_I0 fun _ => .int _)
theorem o_sub : Op2D K rSubA (.int i) (.int j) (.int (i - j)) := op2_I0 fun _ => .int _
theorem o_mul (h : CMulW i j) : Op2D K rMulA (.int i) (.int j) (.int (i * j)) := Op2.inl (op2_I h fun _ => .int _)
theorem o_div (h : CDivW i j) : Op2D K rDivA (.int i) (.int j) (.int (i / j)) := op2_I h fun _ => .int _
theorem o_mod (h : 0 < j) : Op2D K rModA (.int i) (.int j) (.int (i % j)) := op2_I h fun _ => .int _
theorem o_pow (h : CPowW i j) : Op2D K rPowA (.int i) (.int j) (.int (i ^ j.toNat)) := op2_I h fun _ => .int _
theorem o_lt : Op2D K rLt (.int i) (.int j) (.bl (decide (i < j))) := op2_I0 fun _ => .bl _
theorem o_le : Op2D K rLe (.int i) (.int j) (.bl (decide (i ≤ j))) := op2_I0 fun _ => .bl _
theorem o_gt : Op2D K rGt (.int i) (.int j) (.bl (decide (j < i))) := op2_I0 fun _ => .bl _
theorem o_ge : Op2D K rGe (.int i) (.int j) (.bl (decide (j ≤ i))) := op2_I0 fun _ => .bl _
theorem u_neg : Op1D K (rU fun i => V.int (-i)) (.int i) (.int (-i)) := fun N b H v Q hN l r k => by
  cases r
  exact ⟨i, rfl, k _ _ H rfl (Ext.refl H) l (.int _)⟩
end
/-- a product of small numbers: by the bounds -/
theorem cmul_of {i j : Int} (a b : Nat) (ha : i.natAbs < 2 ^ a) (hb : j.natAbs < 2 ^ b) (h : a + b ≤ 1000000 := by decide) (h0 : 0 < a := by decide) (h1 : 0 < b := by decide) : CMulW i j := wide_mul ha hb h0 h1 h

/-! ### == -/
mutual
/-- data without objects of one's own -/
def D.py : D → PyData
  | .non => .none
  | .bl b => .bool b
  | .int i => .int i
  | .str s => .str s
  | .lst xs => .list (D.pyA xs)
  | .tup xs => .tuple (D.pyA xs)
  | _ => .dict []
def D.pyA : List D → List PyData
  | [] => []
  | x :: xs => x.py :: D.pyA xs
end
mutual
/-- no deeper than n, no objects of one's own, texts of signs -/
def D.shp : Nat → D → Bool
  | _, .non => true
  | _, .bl _ => true
  | _, .int _ => true
  | _, .str s => PyData.canLay0 (.str s)
  | 0, .lst _ => false
  | n + 1, .lst xs => D.shpA n xs
  | 0, .tup _ => false
  | n + 1, .tup xs => D.shpA n xs
  | _, _ => false
def D.shpA : Nat → List D → Bool
  | _, [] => true
  | n, x :: xs => D.shp n x && D.shpA n xs
end
mutual
theorem shp_lay : ∀ (n : Nat) (d : D), D.shp n d = true → d.py.canLay0 = true ∧ d.py.depth ≤ n
  | n, .non, _ => ⟨rfl, by simp only [D.py, PyData.depth]; omega⟩
  | n, .bl b, _ => ⟨rfl, by simp only [D.py, PyData.depth]; omega⟩
  | n, .int b, _ => ⟨rfl, by simp only [D.py, PyData.depth]; omega⟩
  | n, .str b, h => ⟨by simpa [D.shp, D.py] using h, by simp only [D.py, PyData.depth]; omega⟩
  | 0, .lst xs, h => by simp [D.shp] at h
  | n + 1, .lst xs, h => by
    have q := shpA_lay n xs (by simpa [D.shp] using h)
    exact ⟨by simp only [D.py, PyData.canLay0]; exact q.1, by simp only [D.py, PyData.depth]; omega⟩
  | 0, .tup xs, h => by simp [D.shp] at h
  | n + 1, .tup xs, h => by
    have q := shpA_lay n xs (by simpa [D.shp] using h)
    exact ⟨by simp only [D.py, PyData.canLay0]; exact q.1, by simp only [D.py, PyData.depth]; omega⟩
  | n, .dct _, h => by simp [D.shp] at h
  | n, .dtt _, h => by simp [D.shp] at h
  | n, .ins _ _, h => by simp [D.shp] at h
  | n, .exc _ _, h => by simp [D.shp] at h
  | n, .purse, h => by simp [D.shp] at h
  | n, .scr _, h => by simp [D.shp] at h
  | n, .ref _, h => by simp [D.shp] at h
  | n, .ty _, h => by simp [D.shp] at h
theorem shpA_lay : ∀ (n : Nat) (xs : List D), D.shpA n xs = true → PyData.canLayAll0 (D.pyA xs) = true ∧ PyData.depthAll (D.pyA xs) ≤ n
  | n, [], _ => ⟨rfl, by simp only [D.pyA, PyData.depthAll]; omega⟩
  | n, x :: xs, h => by
    simp only [D.shpA, Bool.and_eq_true] at h
    have q1 := shp_lay n x h.1
    have q2 := shpA_lay n xs h.2
    exact ⟨by simp only [D.pyA, PyData.canLayAll0, q1.1, q2.1, Bool.and_self], by simp only [D.pyA, PyData.depthAll]; exact Nat.max_le.mpr ⟨q1.2, q2.2⟩⟩
end
theorem shp_shaped {d : D} (h : D.shp 64 d = true) : SeqAt.shaped d.py = true := by
  obtain ⟨h1, h2⟩ := shp_lay 64 d h
  unfold SeqAt.shaped
  rw [h1, decide_eq_true h2]
  rfl
mutual
theorem Rp.dp {K : PySem.W.Frag} {H : Hp} : ∀ {n : Nat} {d : D} {v : V}, Rp K H v d → D.shp n d = true → Dp K H v d.py
  | _, .non, _, .non, _ => .non
  | _, .bl b, _, .bl _, _ => .bl b
  | _, .int b, _, .int _, _ => .int b
  | _, .str b, _, .str _, _ => .str b
  | 0, .lst _, _, _, h => by simp [D.shp] at h
  | n + 1, .lst xs, _, .lst ha r, h => .lst (SqL.of ha) (RpA.dp r (by simpa [D.shp] using h))
  | 0, .tup _, _, _, h => by simp [D.shp] at h
  | n + 1, .tup xs, _, .tup ha r, h => .tup ha (RpA.dp r (by simpa [D.shp] using h))
  | _, .dct _, _, _, h => by simp [D.shp] at h
  | _, .dtt _, _, _, h => by simp [D.shp] at h
  | _, .ins _ _, _, _, h => by simp [D.shp] at h
  | _, .exc _ _, _, _, h => by simp [D.shp] at h
  | _, .purse, _, _, h => by simp [D.shp] at h
  | _, .scr _, _, _, h => by simp [D.shp] at h
  | _, .ref _, _, _, h => by simp [D.shp] at h
  | _, .ty _, _, _, h => by simp [D.shp] at h
theorem RpA.dp {K : PySem.W.Frag} {H : Hp} : ∀ {n : Nat} {ds : List D} {vs : List V}, RpA K H vs ds → D.shpA n ds = true → DpAll K H vs (D.pyA ds)
  | _, [], _, .nil, _ => .nil
  | n, d :: ds, _, .cons r rr, h => by
    simp only [D.shpA, Bool.and_eq_true] at h
    exact .cons (Rp.dp r h.1) (RpA.dp rr h.2)
end
def D.eq (x y : D) : Bool := PyData.eqv x.py y.py
section
variable {X : Cx}
theorem op_eqA (hu : X.A.units + 64 < cLine) : OpR X (compareOp .Eq) (rEqD X.K) := op_eqD hu
theorem op_neA (hu : X.A.units + 64 < cLine) : OpR X (compareOp .NotEq) (rNeD X.K) := op_neD hu
end
theorem o_eq {K : PySem.W.Frag} {x y : D} (hx : D.shp 64 x = true) (hy : D.shp 64 y = true) : Op2D K (rEqD K) x y (.bl (D.eq x y)) := fun N b H v u Q hN l r1 r2 k =>
  ⟨x.py, y.py, (r1.mono msk_all).dp hx, (r2.mono msk_all).dp hy, shp_shaped hx, shp_shaped hy, k _ _ H rfl (Ext.refl H) l (.bl _)⟩
theorem o_ne {K : PySem.W.Frag} {x y : D} (hx : D.shp 64 x = true) (hy : D.shp 64 y = true) : Op2D K (rNeD K) x y (.bl (!D.eq x y)) := fun N b H v u Q hN l r1 r2 k =>
  ⟨x.py, y.py, (r1.mono msk_all).dp hx, (r2.mono msk_all).dp hy, shp_shaped hx, shp_shaped hy, k _ _ H rfl (Ext.refl H) l (.bl _)⟩
theorem eq_int (i j : Int) : D.eq (.int i) (.int j) = decide (i = j) := by
  simp only [D.eq, D.py, PyData.eqv]
  exact Bool.beq_eq_decide_eq i j
theorem o_eqI {K : PySem.W.Frag} {i j : Int} : Op2D K (rEqD K) (.int i) (.int j) (.bl (decide (i = j))) := by
  rw [← eq_int]
  exact o_eq rfl rfl
theorem o_neI {K : PySem.W.Frag} {i j : Int} : Op2D K (rNeD K) (.int i) (.int j) (.bl (!decide (i = j))) := by
  rw [← eq_int]
  exact o_ne rfl rfl

/-! ### items -/
section
variable {K : PySem.W.Frag}
theorem atI_nn {α : Type} {xs : List α} {i : Int} {x : α} (h0 : 0 ≤ i) (h : xs[i.toNat]? = some x) : atI xs i = some x := by
  have hl : i.toNat < xs.length := (List.getElem?_eq_some_iff.mp h).1
  unfold atI ixN
  rw [if_pos h0, if_pos (by omega)]
  exact h
theorem atI_neg {α : Type} {xs : List α} {i : Int} {x : α} (h0 : i < 0) (h1 : -(xs.length : Int) ≤ i) (h : xs[(i + xs.length).toNat]? = some x) : atI xs i = some x := by
  unfold atI ixN
  rw [if_neg (by omega), if_pos h1]
  exact h
theorem RpA.atI {H : Hp} {vs : List V} {ds : List D} {i : Int} {d : D} (r : RpA K H vs ds) (h : L2.atI ds i = some d) : ∃ v, L2.atI vs i = some v ∧ Rp K H v d := by
  unfold L2.atI at h ⊢
  rw [r.length]
  cases e : ixN ds.length i with
  | none => rw [e] at h; cases h
  | some j =>
    rw [e] at h
    obtain ⟨v, h1, h2⟩ := r.getD (i := j) h
    exact ⟨v, h1, h2⟩
def rDGetA : R2 := fun x y H Q => ∃ a v, x = .ref a ∧ DGet H a y (some v) ∧ Q v H
def rIxA (K : PySem.W.Frag) : R2 := fun x y H Q => rIxL K x y H Q ∨ rIxT K x y H Q ∨ rIxS x y H Q ∨ rDGetA x y H Q
theorem ix_dict {X : Cx} (hu : X.A.units + 1 < cLine) : IxR X rDGetA := by
  intro value slice pins s σ H x y v u Q I rx ry h hs
  obtain ⟨a, w, rfl, g, q⟩ := h
  obtain rfl : v = Value.ref a := rx
  have hT := dict_typeIs I g
  have h₂ : wpAny (model X.prog X.w) X.A (getItem (.ref a) u) (EP X pins σ Q) X.xe s := d_getItem hu I g ry fun w' s3 I3 rw' => ⟨w, H, I3, rw', q⟩
  unfold subscriptTail
  refine wpAny_bind ?_
  rw [getitemInPython_of_ne hT.not_modules]
  refine wpAny_bind (wpAny_specialOf hT PySem.F.slot_dict_getitem.lookup ?_)
  have fin : wpAny (model X.prog X.w) X.A (subscripted slice false (.ref a) u) (fun r s₃ => wpAny (model X.prog X.w) X.A (letTemporaryGo value (.ref a) r >>= fun _ => pure r) (EP X pins σ Q) X.xe s₃) X.xe s := by
    rw [hs]
    exact wpAny_operating (wpAny_mono h₂ (fun r s₃ h₃ => wpAny_bind (wpAny_letTemporaryGo (wpAny_pure h₃))) fun _ _ x => x)
  first
    | exact wpAny_pure (wpAny_bind fin)
    | exact wpAny_bind fin
theorem IxR.or' {X : Cx} {r r' : R2} (h : IxR X r) (h' : IxR X r') : IxR X (fun x y H Q => r x y H Q ∨ r' x y H Q) := h.or h'
theorem ix_any {X : Cx} (hu : X.A.units + 1 < cLine) : IxR X (rIxA X.K) := IxR.or' ix_list (IxR.or' ix_tup (IxR.or' ix_str (ix_dict hu)))
theorem o_ixL {xs : List D} {i : Int} {d : D} (h : L2.atI xs i = some d) : Op2D K (rIxA K) (.lst xs) (.int i) d := fun N b H v u Q hN l r1 r2 k => by
  cases r2
  cases r1 with
  | lst ha r =>
    obtain ⟨w, h1, h2⟩ := r.atI h
    exact .inl ⟨_, _, i, w, rfl, rfl, SqL.of (msk_of ha).2, h1, k _ _ H rfl (Ext.refl H) l h2⟩
theorem o_ixT {xs : List D} {i : Int} {d : D} (h : L2.atI xs i = some d) : Op2D K (rIxA K) (.tup xs) (.int i) d := fun N b H v u Q hN l r1 r2 k => by
  cases r2
  cases r1 with
  | tup ha r =>
    obtain ⟨w, h1, h2⟩ := r.atI h
    exact .inr (.inl ⟨_, _, i, w, rfl, rfl, sqt_unm ha, h1, k _ _ H rfl (Ext.refl H) l h2⟩)
theorem o_ixR {ns : List Int} {i : Int} {d : Int} (h : L2.atI ns i = some d) : Op2D K (rIxA K) (.scr ns) (.int i) (.int d) := fun N b H v u Q hN l r1 r2 k => by
  cases r2
  cases r1 with
  | scr ha =>
    refine .inl ⟨_, _, i, .int d, rfl, rfl, (sql_unm ha.sq), ?_, k _ _ H rfl (Ext.refl H) l (.int _)⟩
    unfold L2.atI at h ⊢
    rw [List.length_map]
    cases e : ixN ns.length i with
    | none => rw [e] at h; cases h
    | some j =>
      rw [e] at h
      show (ns.map V.int)[j]? = some (.int d)
      have h' : ns[j]? = some d := h
      rw [List.getElem?_map, h']
      rfl
end

/-! ### built-ins -/
section
variable {K : PySem.W.Frag}
def rMax2 : List V → Hp → VK → Prop := fun xs H Q => ∃ i j, xs = [.int i, .int j] ∧ Q (.int (if j > i then j else i)) H
def rMin2 : List V → Hp → VK → Prop := fun xs H Q => ∃ i j, xs = [.int i, .int j] ∧ Q (.int (if j < i then j else i)) H
theorem call_max2' {X : Cx} (hc : X.calm = true) : CallR X (.builtin "max") rMax2 := call_max2 hc
theorem call_min2' {X : Cx} (hc : X.calm = true) : CallR X (.builtin "min") rMin2 := call_min2 hc
theorem c_max {i j : Int} : ClD K rMax2 [.int i, .int j] (.int (max i j)) := fun N b H vs Q hN l r k => by
  cases r with
  | cons r1 r => cases r with | cons r2 r => cases r; cases r1; cases r2; exact ⟨i, j, rfl, k _ _ H rfl (Ext.refl H) l (by
      have e : (if j > i then j else i) = max i j := by split <;> omega
      rw [e]; exact .int _)⟩
theorem c_min {i j : Int} : ClD K rMin2 [.int i, .int j] (.int (min i j)) := fun N b H vs Q hN l r k => by
  cases r with
  | cons r1 r => cases r with | cons r2 r => cases r; cases r1; cases r2; exact ⟨i, j, rfl, k _ _ H rfl (Ext.refl H) l (by
      have e : (if j < i then j else i) = min i j := by split <;> omega
      rw [e]; exact .int _)⟩
def rLen (K : PySem.W.Frag) : List V → Hp → VK → Prop := fun xs H Q => ∃ x n, xs = [x] ∧ LenV K x H n ∧ Q (.int n) H
theorem call_len' {X : Cx} : CallR X (.builtin "len") (rLen X.K) := call_len
theorem c_lenL {xs : List D} : ClD K (rLen K) [.lst xs] (.int (xs.length : Int)) := fun N b H vs Q hN l r k => by
  cases r with
  | cons r1 r =>
    cases r
    cases r1 with
    | lst ha r => exact ⟨_, xs.length, rfl, .inl ⟨_, SqL.of (msk_of ha).2, r.length.symm⟩, k _ _ H rfl (Ext.refl H) l (.int _)⟩
theorem c_lenT {xs : List D} : ClD K (rLen K) [.tup xs] (.int (xs.length : Int)) := fun N b H vs Q hN l r k => by
  cases r with
  | cons r1 r =>
    cases r
    cases r1 with
    | tup ha r => exact ⟨_, xs.length, rfl, .inr ⟨_, sqt_unm ha, r.length.symm⟩, k _ _ H rfl (Ext.refl H) l (.int _)⟩
theorem c_lenR {ns : List Int} : ClD K (rLen K) [.scr ns] (.int (ns.length : Int)) := fun N b H vs Q hN l r k => by
  cases r with
  | cons r1 r =>
    cases r
    cases r1 with
    | scr ha => exact ⟨_, ns.length, rfl, .inl ⟨_, (sql_unm ha.sq), by rw [List.length_map]⟩, k _ _ H rfl (Ext.refl H) l (.int _)⟩
def CDivm (i j : Int) : Prop := 0 < j ∧ Builtin.divisionGoesByPylong i j = false
def rDivm : List V → Hp → VK → Prop := fun xs H Q => ∃ i j, xs = [.int i, .int j] ∧ CDivP i j ∧ ∀ p, H p = none → Q (.ref p) (upd H p (.tup [.int (i / j), .int (i % j)]))
theorem call_divm {X : Cx} : CallR X (.builtin "divmod") rDivm := call_divmodW
theorem c_divm {i j : Int} (h : 0 < j) (h9 : j < 1073741824) : ClD K rDivm [.int i, .int j] (.tup [.int (i / j), .int (i % j)]) := fun N b H vs Q hN l r k => by
  cases r with
  | cons r1 r => cases r with | cons r2 r => cases r; cases r1; cases r2; exact ⟨i, j, rfl, ⟨h, PyProof.noPylong_small (by omega)⟩, fun p hp => k _ _ _ rfl (Ext.new hp) (l.upd fun _ z => nomatch z) (new_tup hN hp (.cons (.int _) (.cons (.int _) .nil)))⟩
end
end Sh

/-! Sh7: a source of draws: three numbers in a list, told as a thing that gives any number below a bound. -/
namespace Sh
open PySem PySem.Spec PyProof.Rows L2

theorem vals3 {x y z : V} {us : List Value} (r : Vals [x, y, z] us) : Vals [x, y, z] us := r
/-- a list of three numbers seen as a source -/
theorem purse_ok {P : Program} {w : World} {H H2 : Hp} {h : Heap} {a : Addr} {x y z : Int} {n : Nat} (q : ObjOk P w H h a (.lst [.int x, .int y, .int z])) (g : PGood n x y z) : ObjOk P w H2 h a (PurseO a n) := by
  obtain ⟨_, its, m, rv, e⟩ := q
  exact ⟨⟨x, y, z, g, its, m, rv, e⟩, ⟨_, e⟩, fun h1 h2 ⟨x, y, z, g, its, m, rv, e⟩ k => ⟨x, y, z, g, its, m, rv, k _ e⟩⟩
theorem ObjOk.other {P : Program} {w : World} {H H2 : Hp} {h : Heap} {a : Addr} {o : HO} (q : ObjOk P w H h a o) (h1 : ∀ b, H b = some (.own a) → H2 b = some (.own a)) (h2 : ∀ b xs, H b = some (.tup xs) → H2 b = some (.tup xs)) : ObjOk P w H2 h a o :=
  q.stay (fun _ _ _ e => e) h1 h2
/-- a change of view at p, of things that no other leans on -/
theorem HOk.view {P : Program} {w : World} {H : Hp} {h : Heap} {p : Addr} {o o' : HO} (ok : HOk P w H h) (hp : H p = some o) (n1 : ∀ a, o ≠ .own a) (n2 : ∀ xs, o ≠ .tup xs) (new : ObjOk P w (upd H p o') h p o') : HOk P w (upd H p o') h := fun b u e => by
  by_cases hb : b = p
  · subst hb
    rw [upd_same] at e
    cases e
    exact new
  · rw [upd_ne hb] at e
    refine ObjOk.other (ok b u e) (fun c q => ?_) fun c xs q => ?_
    · have nc : c ≠ p := fun z => by
        rw [z, hp] at q
        exact n1 _ (Option.some.inj q)
      rw [upd_ne nc]
      exact q
    · have nc : c ≠ p := fun z => by
        rw [z, hp] at q
        exact n2 _ (Option.some.inj q)
      rw [upd_ne nc]
      exact q
section
variable {P : Program} {w : World} {K : PySem.W.Frag} {mg : Str → Option Value} {base : Heap} {k : Nat} {f : Addr} {fd : FuncData} {ps : List Str}
/-- purse, many: any number from 0 on below many -/
def fdDraw : Fd := { n := 2, dom := fun ds => ∃ m : Int, ds = [.purse, .int m] ∧ 0 < m ∧ m < 2 ^ 200, cost := fun _ => 1, res := fun ds d => ∃ m i : Int, ds = [.purse, .int m] ∧ d = .int i ∧ 0 ≤ i ∧ i < m }
/-- the heap without p -/
def hidp (p : Addr) (H : Hp) : Hp := fun a => if a = p then none else H a
theorem hidp_same {p : Addr} {H : Hp} : hidp p H p = none := if_pos rfl
theorem hidp_ne {p a : Addr} {H : Hp} (h : a ≠ p) : hidp p H a = H a := if_neg h
theorem hidp_of {p a : Addr} {H : Hp} {o : HO} (h : hidp p H a = some o) : a ≠ p ∧ H a = some o := by
  by_cases e : a = p
  · rw [e, hidp_same] at h; cases h
  · rw [hidp_ne e] at h; exact ⟨e, h⟩
def spDrawC : Sp := fun vs H Q _ => ∃ (p : Addr) (x y z m : Int) (n b : Nat), vs = [.ref p, .int m] ∧ 0 < m ∧ m < 2 ^ 200 ∧ H p = some (.lst [.int x, .int y, .int z]) ∧ PGood n x y z ∧ n < LIM ∧ Lim b H ∧
  ∀ (i x' y' z' : Int) (H' : Hp), 0 ≤ i → i < m → PGood (n + 1) x' y' z' → Ext (hidp p H) H' → Lim b H' → H' p = some (.lst [.int x', .int y', .int z']) → Q (.int i) H'
theorem draw_view (F : FnOk P w K mg base (L2.CX P w) k f fd ps spDrawC) (hps : ps.length = 2) : FnOk P w K mg base (L2.CX P w) k f fd ps (SpD K fdDraw) := by
  refine ⟨SpD.len (F := fdDraw) hps, fun A outer s H args us vs Q E hr e0 hb r hsp => ?_⟩
  obtain ⟨ds, N, b, a1, ⟨n0, a2, a3⟩, a4, _, ⟨m, rfl, hm0, hm1⟩, a6, _⟩ := hsp
  cases a4 with
  | cons r1 a4 =>
    cases a4 with
    | cons r2 a4 =>
      cases a4
      cases r2
      cases r1 with
      | @purse p n hp0 =>
        have hp1 := (msk_of hp0).2
        have hN := (msk_of hp0).1
        obtain ⟨c, hc, ec⟩ := a2 p _ hp1
        have hp : H p = some (PurseO p c) := by rw [← ec]; exact hp1
        obtain ⟨⟨x, y, z, g, its, k', rv, eh⟩, _, _⟩ := e0.hok p _ hp
        have okH : HOk P w (upd H p (.lst [.int x, .int y, .int z])) s.heap := HOk.view e0.hok hp (fun _ q => nomatch q) (fun _ q => nomatch q) ⟨by show 3 ≤ sizeLine; decide, its, k', rv, eh⟩
        have nz : ∀ b, H b = none → (upd H p (.lst [.int x, .int y, .int z])) b = none := fun b h => by
          rw [upd_ne (fun q => by rw [q, hp] at h; cases h)]
          exact h
        have e1 : Env0 P w K mg base A outer s (upd H p (.lst [.int x, .int y, .int z])) := ⟨e0.frames, e0.mod, fun b o q => ⟨(e0.bs b o q).1, nz b (e0.bs b o q).2⟩, e0.bsz, e0.funs, fun b q => nz b (e0.frf b q), okH, e0.bare⟩
        have hc1 : c + 1 + b ≤ LIM := by
          have h3 : n0 + (1 + b) ≤ LIM := a3
          omega
        have limL : Lim (1 + b) (upd H p (.lst [.int x, .int y, .int z])) := ⟨n0, fun a φ ha => by
          by_cases na : a = p
          · rw [na, upd_same] at ha; exact nomatch ha
          · rw [upd_ne na] at ha; exact a2 a φ ha, a3⟩
        have hidu : hidp p (upd H p (.lst [.int x, .int y, .int z])) = hidp p H := by
          funext a
          by_cases na : a = p
          · rw [na, hidp_same, hidp_same]
          · rw [hidp_ne na, hidp_ne na, upd_ne na]
        refine codeAny_mono (F.run A outer s _ args us [.ref p, .int m] (fun v H' => ∃ (i x' y' z' : Int), v = .int i ∧ 0 ≤ i ∧ i < m ∧ PGood (c + 1) x' y' z' ∧ Ext (hidp p H) H' ∧ Lim (1 + b) H' ∧ H' p = some (.lst [.int x', .int y', .int z'])) (fun _ _ _ => False) hr e1 hb r
          ⟨p, x, y, z, m, c, 1 + b, rfl, hm0, hm1, upd_same, g, by omega, limL, fun i x' y' z' H' h1 h2 h3 h4 h5 h6 => ⟨i, x', y', z', rfl, h1, h2, h3, by rw [← hidu]; exact h4, h5, h6⟩⟩) fun res s' hq => ?_
        cases res with
        | error e =>
          obtain ⟨a, B, H', cls, d, q1, q2, q3, q4, q5, q6, q7, q8⟩ := hq
          exact q8.elim
        | ok fl =>
          cases fl with
          | next => exact False.elim hq
          | brk => exact False.elim hq
          | cont => exact False.elim hq
          | ret u =>
            obtain ⟨v, H', os, bare, un, hok, rel, i, x', y', z', rfl, i0, i1, g', ex, ⟨n1, l1, l2⟩, hp'⟩ := hq
            have np : ∀ b, H b = none → b ≠ p := fun b h q => by rw [q, hp] at h; cases h
            have ext : Ext H (upd H' p (PurseO p (c + 1))) := ⟨⟨fun a o ha no => by
                have na : a ≠ p := fun q => by rw [q, hp] at ha; exact no _ (Option.some.inj ha).symm
                rw [upd_ne na]
                exact ex.keep a o (by rw [hidp_ne na]; exact ha) no, fun a j ha => by
                by_cases na : a = p
                · exact ⟨c + 1, by rw [na]; exact upd_same⟩
                · obtain ⟨j', hj⟩ := ex.pz a j (by rw [hidp_ne na]; exact ha)
                  exact ⟨j', by rw [upd_ne na]; exact hj⟩⟩, fun a ha => by
                by_cases na : a = p
                · rw [na, upd_same]; exact fun q => nomatch q
                · rw [upd_ne na]; exact ex.dom a (by rw [hidp_ne na]; exact ha)⟩
            have lim : Lim b (upd H' p (PurseO p (c + 1))) := ⟨max n1 (c + 1), fun a φ ha => by
                by_cases na : a = p
                · rw [na, upd_same] at ha
                  exact ⟨c + 1, Nat.le_max_right _ _, by rw [na]; exact (Option.some.inj ha).symm⟩
                · rw [upd_ne na] at ha
                  obtain ⟨j, h1, h2⟩ := l1 a φ ha
                  exact ⟨j, Nat.le_trans h1 (Nat.le_max_left _ _), h2⟩, by
                have h3 : n1 + (1 + b) ≤ LIM := l2
                omega⟩
            refine ⟨.int i, upd H' p (PurseO p (c + 1)), os, bare, ⟨fun b o q n hb hx => un.keep b o q (nz b n) hb hx, fun b o q n hb hx => un.slot b o q (nz b n) hb hx, fun b o q n hx => ?_, un.there, fun b xs q => ?_, fun b o xs q => ?_, fun b ps q => ?_⟩, ?_, rel, a6 _ _ _ ⟨m, i, rfl, rfl, i0, i1⟩ ext lim (.int i) (fun z => nomatch z)⟩
            · rw [upd_ne (np b n)]
              exact un.free b o q (nz b n) hx
            · have nb : b ≠ p := fun e => by rw [e, hp] at q; exact nomatch q
              rw [upd_ne nb]
              exact un.tups b xs (by rw [upd_ne nb]; exact q)
            · have nb : b ≠ p := fun e => by rw [e, hp] at q; exact nomatch q
              rw [upd_ne nb]
              exact un.frzs b o xs (by rw [upd_ne nb]; exact q)
            · have nb : b ≠ p := fun e => by rw [e, hp] at q; exact nomatch q
              obtain ⟨more, h⟩ := un.tbls b ps (by rw [upd_ne nb]; exact q)
              exact ⟨more, by rw [upd_ne nb]; exact h⟩
            · exact HOk.view hok hp' (fun _ q => nomatch q) (fun _ q => nomatch q) (purse_ok (hok p _ hp') g')
/-- the body of a def that draws -/
abbrev gDraw (K : PySem.W.Frag) (p : Addr) (H : Hp) (E : XK) : Gx := ⟨K, hidp p H, fun _ => False, WD E, fun _ _ _ _ => False, false⟩
abbrev eDraw (p : Addr) (m : Int) (n b : Nat) : DE := { nx := fun _ _ => False, rt := fun d ds b' => b ≤ b' ∧ ∃ i x' y' z' : Int, d = .int i ∧ 0 ≤ i ∧ i < m ∧ ds[0]? = some (.par p [.int x', .int y', .int z']) ∧ PGood (n + 1) x' y' z' }
theorem draw_fn {x qual : Str} {st : Stmt} {N : List Str} (U : Fun K x qual st f fd) (S : FnScope N ps (defScope st)) (hps : ps.length = 2)
    (hbody : ∀ (cdv : Value) (A : Around) (outer : List Env) (s : Shared) (H : Hp) (E : XK), Room k (A.deeper (envOfC qual (defScope st) s.heap.objs.size f cdv)) → Takes (cxOf (L2.CX P w) P w K mg base N qual (defScope st) f cdv A outer s H E) (WD E) →
      ∃ t, PSs (cxOf (L2.CX P w) P w K mg base N qual (defScope st) f cdv A outer s H E) (defBody st) t ∧
        ∀ (p : Addr) (x y z m : Int) (n b : Nat), 0 < m → m < 2 ^ 200 → PGood n x y z → n < LIM → Wt (gDraw K p H E) b t (.par p [.int x, .int y, .int z] :: .dat (.int m) :: List.replicate (N.length - 2) .un) (eDraw p m n b)) :
    FnOk P w K mg base (L2.CX P w) (k + 1) f fd ps (SpD K fdDraw) := by
  refine draw_view ?_ hps
  obtain ⟨oc, od, kV, doc, pm, an, cdv, ct, osl, rfl, lk, hcd⟩ := U.ex
  refine fn_of lk hcd S (fun vs H Q E ⟨p, x, y, z, m, n, b, e, _⟩ => by rw [e, hps]; rfl) fun A outer s H vs Q E hr hsp => ?_
  obtain ⟨t, h1, h2⟩ := hbody cdv A outer s H E hr (takes_of (E := E) rfl rfl rfl rfl)
  obtain ⟨p, x, y, z, m, n, b, rfl, hm0, hm1, hp, g, hn, hl, k⟩ := hsp
  refine ⟨t, h1, h2 p x y z m n b hm0 hm1 g hn [] (fun a => a = p) H _ ?_ _ ⟨fun _ _ _ _ _ _ e => e.elim, fun M b' H' σ' ds' v d S' e rp _ => ?_, fun _ _ _ _ _ _ e => e.elim, fun _ _ _ _ _ _ e => e.elim⟩⟩
  · have sl0 : SlOk K (fun a => a = p) H (some (.ref p)) (.par p [.int x, .int y, .int z]) := ⟨_, rfl, rfl, hp, .cons (.int x) (.cons (.int y) (.cons (.int z) .nil))⟩
    have look : ∀ (i : Nat) (s : Option V) (d : Sd), (L2.start N [.ref p, .int m])[i]? = some s → (Sd.par p [.int x, .int y, .int z] :: .dat (.int m) :: List.replicate (N.length - 2) .un)[i]? = some d → (i = 0 ∧ s = some (.ref p) ∧ d = .par p [.int x, .int y, .int z]) ∨ (i = 1 ∧ s = some (.int m) ∧ d = .dat (.int m)) ∨ d = .un := fun i s d e1 e2 => by
      match i, e1, e2 with
      | 0, e1, e2 => cases e1; cases e2; exact .inl ⟨rfl, rfl, rfl⟩
      | 1, e1, e2 => cases e1; cases e2; exact .inr (.inl ⟨rfl, rfl, rfl⟩)
      | i + 2, e1, e2 => exact .inr (.inr (List.mem_replicate.mp (List.mem_of_getElem? (show (List.replicate (N.length - 2) Sd.un)[i]? = some d from e2))).2)
    refine ⟨⟨⟨fun a o h _ => (hidp_of h).2, fun a j h => ⟨j, (hidp_of h).2⟩⟩, fun a h q => ?_⟩, fun a h => h.elim, fun a h _ => by show hidp p H a = none; rw [h]; exact hidp_same, fun a h => by rw [h, hp]; exact (fun q => nomatch q), hl, ?_, fun i s d e1 e2 => ?_, fun i j a ⟨s1, d, q1, q3, q5⟩ ⟨s2, e, q2, q4, q6⟩ => ?_, fun i a _ => fun z => z, fun q hq => by cases hq⟩
    · by_cases na : a = p
      · rw [na] at h; exact h hidp_same
      · exact h (by show hidp p H a = none; rw [hidp_ne na]; exact q)
    · show (([V.ref p, V.int m].map some) ++ List.replicate (N.length - 2) none).length = _
      simp
    · rcases look i s d e1 e2 with ⟨_, rfl, rfl⟩ | ⟨_, rfl, rfl⟩ | rfl
      · exact sl0
      · exact ⟨_, rfl, .int m⟩
      · trivial
    · rcases look i _ d q1 q3 with ⟨e1, _, _⟩ | ⟨_, _, e1⟩ | e1
      · rcases look j _ e q2 q4 with ⟨e2, _, _⟩ | ⟨_, _, e2⟩ | e2
        · rw [e1, e2]
        · rw [e2] at q6; cases q6
        · rw [e2] at q6; cases q6
      · rw [e1] at q5; cases q5
      · rw [e1] at q5; cases q5
  · obtain ⟨hb', i, x', y', z', rfl, i0, i1, h0, g'⟩ := e
    obtain ⟨vs, q1, q2, q3, q4, _⟩ := S'.parL h0
    cases q4 with
    | cons r1 q4 => cases q4 with | cons r2 q4 => cases q4 with | cons r3 q4 =>
      cases q4
      cases r1
      cases r2
      cases r3
      cases rp
      exact k i x' y' z' H' i0 i1 g' S'.ext (S'.lim.mono hb') q3
def QMake (H : Hp) (Q : VK) : VK := fun v H' => ∃ (q : Addr) (x y z : Int) (n : Nat), v = .ref q ∧ H q = none ∧ PGood n x y z ∧ H' q = some (.lst [.int x, .int y, .int z]) ∧ Q v (upd H' q (PurseO q n))
/-- a new source; H' behind it -/
theorem ce_make {outer : List Env} {H : Hp} {s s' : Shared} {u : Value} {Q : VK} (h : CE outer P w H s (QMake H Q) u s') : CE outer P w H s Q u s' := by
  obtain ⟨v, H', os, bare, un, hok, rel, q, x, y, z, n, rfl, hq0, g, hq, h2⟩ := h
  refine ⟨.ref q, _, os, bare, ⟨un.keep, un.slot, fun b o e hb hx => ?_, un.there, fun b xs e => ?_, fun b o xs e => ?_, fun b ps e => ?_⟩, HOk.view hok hq (fun _ q => nomatch q) (fun _ q => nomatch q) (purse_ok (hok q _ hq) g), rel, h2⟩
  · have h3 := un.free b o e hb hx
    rw [upd_ne (fun z => by rw [z, hq] at h3; cases h3)]
    exact h3
  · have h3 := un.tups b xs e
    rw [upd_ne (fun z => by rw [z, hq] at h3; cases h3)]
    exact h3
  · have h3 := un.frzs b o xs e
    rw [upd_ne (fun z => by rw [z, hq] at h3; cases h3)]
    exact h3
  · obtain ⟨more, h3⟩ := un.tbls b ps e
    exact ⟨more, by rw [upd_ne (fun z => by rw [z, hq] at h3; cases h3)]; exact h3⟩
/-- a def that makes a source of the script's cell k -/
def fdMake : Fd := { n := 2, dom := fun ds => ∃ (ns : List Int) (k : Int), ds = [.scr ns, .int k] ∧ 0 ≤ k ∧ k < 1000, res := fun _ d => d = .purse }
def spMakeC (K : PySem.W.Frag) : Sp := fun vs H Q _ => ∃ (a : Addr) (ns : List Int) (k : Int), vs = [.ref a, .int k] ∧ 0 ≤ k ∧ k < 1000 ∧ ScrL K H a (ns.map V.int) ∧ (∀ o, K.lookup a = some o → H a = none) ∧
  ∃ b, Lim b H ∧ ∀ (q : Addr) (x y : Int) (H' : Hp), H q = none → PGood 0 x y 0 → Ext H H' → Lim b H' → H' q = some (.lst [.int x, .int y, .int 0]) → Q (.ref q) H'
/-- .. of a number and a place -/
def fdMakeI : Fd := { n := 2, dom := fun ds => ∃ (c k : Int), ds = [.int c, .int k] ∧ 0 ≤ k ∧ k < 1000, res := fun _ d => d = .purse }
def spMakeI : Sp := fun vs H Q _ => ∃ (c k : Int), vs = [.int c, .int k] ∧ 0 ≤ k ∧ k < 1000 ∧
  ∃ b, Lim b H ∧ ∀ (q : Addr) (x y : Int) (H' : Hp), H q = none → PGood 0 x y 0 → Ext H H' → Lim b H' → H' q = some (.lst [.int x, .int y, .int 0]) → Q (.ref q) H'
theorem make_end {H H' : Hp} {N : Addr → Prop} {b : Nat} {q : Addr} {x y : Int} {Q : VK} (hN : ∀ a, N a → H a ≠ none) (l : Lim b H') (hq : H q = none) (g : PGood 0 x y 0) (e : Ext H H') (h' : H' q = some (.lst [.int x, .int y, .int 0]))
    (k : ∀ v d H', d = D.purse → Ext H H' → Lim b H' → Rp K (msk N H') v d → Q v H') : QMake H Q (.ref q) H' := by
  refine ⟨q, x, y, 0, 0, rfl, hq, g, h', ?_⟩
  obtain ⟨n0, p1, p2⟩ := l
  refine k _ _ _ rfl (e.mut hq) ⟨n0, fun a φ ha => ?_, p2⟩ (.purse (n := 0) (by rw [msk_no fun z => hN q z hq]; exact upd_same))
  by_cases na : a = q
  · rw [na, upd_same] at ha
    exact ⟨0, Nat.zero_le _, by rw [na]; exact (Option.some.inj ha).symm⟩
  · rw [upd_ne na] at ha
    exact p1 a φ ha
theorem make_view (F : FnOk P w K mg base (L2.CX P w) k f fd ps (spMakeC K)) (hps : ps.length = 2) : FnOk P w K mg base (L2.CX P w) k f fd ps (SpD K fdMake) := by
  refine ⟨SpD.len (F := fdMake) hps, fun A outer s H args us vs Q E hr e0 hb r hsp => ?_⟩
  obtain ⟨ds, N, b, a1, a2, a4, _, ⟨ns, c, rfl, h0, h1⟩, a6, _⟩ := hsp
  cases a4 with
  | cons r1 a4 =>
    cases a4 with
    | cons r2 a4 =>
      cases a4
      cases r2
      cases r1 with
      | scr hs =>
        have a2' : Lim b H := a2.mono (Nat.le_add_left _ _)
        refine codeAny_mono (F.run A outer s H args us _ (QMake H Q) (fun _ _ _ => False) hr e0 hb r ⟨_, ns, c, rfl, h0, h1, msk_all.scr hs, fun o ho => (e0.bs _ _ (e0.mod.kin _ _ ho)).2, b, a2', fun q x y H' hq g e l h' => make_end a1 l hq g e h' fun v d H' e x l rp => a6 v d H' e x l rp (fun z => nomatch z)⟩) fun res s' hq => ?_
        cases res with
        | error e =>
          obtain ⟨a, B, H', cls, d, q1, q2, q3, q4, q5, q6, q7, q8⟩ := hq
          exact q8.elim
        | ok fl =>
          cases fl with
          | next => exact False.elim hq
          | brk => exact False.elim hq
          | cont => exact False.elim hq
          | ret u => exact ce_make hq
theorem makeI_view (F : FnOk P w K mg base (L2.CX P w) k f fd ps spMakeI) (hps : ps.length = 2) : FnOk P w K mg base (L2.CX P w) k f fd ps (SpD K fdMakeI) := by
  refine ⟨SpD.len (F := fdMakeI) hps, fun A outer s H args us vs Q E hr e0 hb r hsp => ?_⟩
  obtain ⟨ds, N, b, a1, a2, a4, _, ⟨n, c, rfl, h0, h1⟩, a6, _⟩ := hsp
  cases a4 with
  | cons r1 a4 =>
    cases a4 with
    | cons r2 a4 =>
      cases a4
      cases r2
      cases r1
      have a2' : Lim b H := a2.mono (Nat.le_add_left _ _)
      refine codeAny_mono (F.run A outer s H args us _ (QMake H Q) (fun _ _ _ => False) hr e0 hb r ⟨n, c, rfl, h0, h1, b, a2', fun q x y H' hq g e l h' => make_end a1 l hq g e h' fun v d H' e x l rp => a6 v d H' e x l rp (fun z => nomatch z)⟩) fun res s' hq => ?_
      cases res with
      | error e =>
        obtain ⟨a, B, H', cls, d, q1, q2, q3, q4, q5, q6, q7, q8⟩ := hq
        exact q8.elim
      | ok fl =>
        cases fl with
        | next => exact False.elim hq
        | brk => exact False.elim hq
        | cont => exact False.elim hq
        | ret u => exact ce_make hq
/-- the body of a def that makes a source -/
abbrev gMake (K : PySem.W.Frag) (H : Hp) (M0 : Addr → Prop) (E : XK) : Gx := ⟨K, H, M0, WD E, fun _ _ _ _ => False, false⟩
abbrev eMake (b : Nat) : DE := { nx := fun _ _ => False, rt := fun d _ b' => b ≤ b' ∧ ∃ x y : Int, d = .lst [.int x, .int y, .int 0] ∧ PGood 0 x y 0 }
theorem make_fn {x qual : Str} {st : Stmt} {N : List Str} (U : Fun K x qual st f fd) (S : FnScope N ps (defScope st)) (hps : ps.length = 2)
    (hbody : ∀ (cdv : Value) (A : Around) (outer : List Env) (s : Shared) (H : Hp) (E : XK), Room k (A.deeper (envOfC qual (defScope st) s.heap.objs.size f cdv)) → Takes (cxOf (L2.CX P w) P w K mg base N qual (defScope st) f cdv A outer s H E) (WD E) →
      ∃ t, PSs (cxOf (L2.CX P w) P w K mg base N qual (defScope st) f cdv A outer s H E) (defBody st) t ∧
        ∀ (M0 : Addr → Prop) (ns : List Int) (c : Int) (b : Nat), 0 ≤ c → c < 1000 → Wt (gMake K H M0 E) b t (slots N.length [.scr ns, .int c]) (eMake b)) :
    FnOk P w K mg base (L2.CX P w) (k + 1) f fd ps (SpD K fdMake) := by
  refine make_view ?_ hps
  obtain ⟨oc, od, kV, doc, pm, an, cdv, ct, osl, rfl, lk, hcd⟩ := U.ex
  refine fn_of lk hcd S (fun vs H Q E ⟨a, ns, c, e, _⟩ => by rw [e, hps]; rfl) fun A outer s H vs Q E hr hsp => ?_
  obtain ⟨t, h1, h2⟩ := hbody cdv A outer s H E hr (takes_of (E := E) rfl rfl rfl rfl)
  obtain ⟨a, ns, c, rfl, c0, c1, hs, hno, b, hl, k⟩ := hsp
  have hm : Rp K (msk (fun q => H q ≠ none ∧ q ≠ a) H) (.ref a) (.scr ns) := .scr (by
    rcases hs with ⟨o, h⟩ | h
    · exact .inl ⟨o, by rw [msk_no fun z => z.2 rfl]; exact h⟩
    · exact .inr h)
  refine ⟨t, h1, h2 (fun q => H q ≠ none ∧ q ≠ a) ns c b c0 c1 [] _ H _ (start_stt (fun q h => h.1) hl (.cons hm (.cons (.int c) .nil))) _ ⟨fun _ _ _ _ _ _ e => e.elim, fun M b' H' σ' ds' v d S' e rp _ => ?_, fun _ _ _ _ _ _ e => e.elim, fun _ _ _ _ _ _ e => e.elim⟩⟩
  obtain ⟨hb', x, y, rfl, g⟩ := e
  cases rp with
  | @lst q vs _ ha r =>
    cases r with
    | cons r1 r => cases r with | cons r2 r => cases r with | cons r3 r =>
      cases r
      cases r1
      cases r2
      cases r3
      obtain ⟨m1, m2⟩ := msk_of ha
      have hq : H q = none := by
        cases e : H q with
        | none => rfl
        | some o =>
          have eq : q = a := Classical.byContradiction fun z => m1 ⟨by show H q ≠ none; rw [e]; exact (fun z => nomatch z), z⟩
          rcases hs with ⟨o', h⟩ | h
          · rw [← eq] at h
            have h3 := S'.ext.keep _ _ h (fun _ z => nomatch z)
            rw [m2] at h3
            exact nomatch h3
          · rw [eq] at e m2
            obtain ⟨o1, its, n, lk1, _⟩ := h
            rw [hno o1 lk1] at e
            cases e
      exact k q x y H' hq g S'.ext (S'.lim.mono hb') m2
end
end Sh

/-! Sh8: the rules in the form in which gen.py prints them: K a letter. -/
namespace Sh
open PySem PySem.Spec PyProof.Rows L2
section
variable {X : Cx} {K : PySem.W.Frag}
theorem g_add (hK : X.K = K) : OpR X (binaryOp .Add) (rAddA K) := by subst hK; exact op_addA
theorem g_sub : OpR X (binaryOp .Sub) rSubA := op_subA
theorem g_mul : OpR X (binaryOp .Mult) rMulA := op_mulA
theorem g_div : OpR X (binaryOp .FloorDiv) rDivA := op_divA
theorem g_mod : OpR X (binaryOp .Mod) rModA := op_modA
theorem g_pow : OpR X (binaryOp .Pow) rPowA := op_powA
theorem g_lt : OpR X (compareOp .Lt) rLt := op_ltA
theorem g_le : OpR X (compareOp .LtE) rLe := op_leA
theorem g_gt : OpR X (compareOp .Gt) rGt := op_gtA
theorem g_ge : OpR X (compareOp .GtE) rGe := op_geA
theorem g_eq (hK : X.K = K) {k : Nat} (hr : Room k X.A) : OpR X (compareOp .Eq) (rEqD K) := by subst hK; exact op_eqA hr.units
theorem g_ne (hK : X.K = K) {k : Nat} (hr : Room k X.A) : OpR X (compareOp .NotEq) (rNeD K) := by subst hK; exact op_neA hr.units
theorem g_neg : UnR X (unaryOp .USub) (rU fun i => V.int (-i)) := un_neg
def rIsN : R2 := fun x y H Q => y = .non ∧ Q (.bl (decide (x = .non))) H
def rNotN : R2 := fun x y H Q => y = .non ∧ Q (.bl (!decide (x = .non))) H
theorem g_is : OpR X (compareOp .Is) rIsN := op_isN
theorem g_isnot : OpR X (compareOp .IsNot) rNotN := op_notN
theorem g_ix (hK : X.K = K) {k : Nat} (hr : Room k X.A) : IxR X (rIxA K) := by subst hK; exact ix_any (hu_of hr)
theorem g_len (hK : X.K = K) : CallR X (.builtin "len") (rLen K) := by subst hK; exact call_len'
theorem g_max (hc : X.calm = true) : CallR X (.builtin "max") rMax2 := call_max2' hc
theorem g_min (hc : X.calm = true) : CallR X (.builtin "min") rMin2 := call_min2' hc
theorem g_divmod : CallR X (.builtin "divmod") rDivm := call_divm
theorem boot_divm : bootBuiltins "divmod" = some (.builtin "divmod") := by decide +kernel
theorem g_list (hK : X.K = K) {tg l : Expr} {tl : TE} (hl : PE X l tl) : PI X tg l (iList K tl) := by subst hK; exact pi_list hl
theorem g_tuple (hK : X.K = K) {tg l : Expr} {tl : TE} (hl : PE X l tl) : PI X tg l (iTup K tl) := by subst hK; exact pi_tup hl
theorem g_enum (hK : X.K = K) {e : Expr} {ta : TA} {p pos tpos : Pos} {elts : List Expr} {kk : Nat} (hg : Gl X "enumerate") (hm : X.mg "enumerate" = none) (ha : PA X [e] ta) (hs : starEach [e] X.env = [(false, eval e X.env)] := by rfl) :
    PI X (.Tuple elts kk tpos) (.Call (.Name "enumerate" p) [e] [] pos) (iEnum K ta) := by subst hK; exact pi_enum hg hm ha hs
theorem g_zip (hK : X.K = K) {e e2 : Expr} {ta : TA} {p pos tpos : Pos} {elts : List Expr} {kk : Nat} (hg : Gl X "zip") (hm : X.mg "zip" = none) (ha : PA X [e, e2] ta)
    (hs : starEach [e, e2] X.env = (false, eval e X.env) :: starEach [e2] X.env := by rfl) (hpl : (backTo pos (starEach [e2] X.env)).any (·.1) = false := by rfl) :
    PI X (.Tuple elts kk tpos) (.Call (.Name "zip" p) [e, e2] [] pos) (RZ.iZipA K ta) := by subst hK; exact RZ.pi_zipA hg hm ha hs hpl
theorem g_tup (hK : X.K = K) {es : List Expr} {k : Nat} {t : TGs} {n : Nat} {pos : Pos} (hc : X.calm = true) (h : PGs X es t)
    (hn : (assignEach es X.env).length = n := by rfl) (hst : (assignEach es X.env).findIdx? (·.1) = none := by rfl) : PG X (.Tuple es k pos) (gTup K n t) := by subst hK; exact pg_tup hc h hn hst
def tTru (K : PySem.W.Frag) (ta : TE) : TT := fun σ H Q => ta σ H fun x H' => ∃ k, TruV K x H' k ∧ Q k H'
theorem g_tru (hK : X.K = K) {a : Expr} {ta : TE} (ha : PE X a ta) (he : ∀ whole, isTrue a X.env whole = (do let v ← whole; standAt a.pos; holding [v] (truthy v))) : PT X a (tTru K ta) := by subst hK; exact pt_truth ha he
theorem g_app (hK : X.K = K) {o e : Expr} {es : List Expr} {to : TE} {t : TA} {apos pos : Pos} (h : PE X (.Call (.Attribute o "append" apos) [e] [] pos) (tBM X.K "list" rAppend to t)) : PE X (.Call (.Attribute o "append" apos) [e] [] pos) (tBM K "list" rAppend to t) := by subst hK; exact h
end
/-! what they ask, by data -/
section
variable {G : Gx} {p : Bool} {b b' : Nat} {te : TE} {ds : List Sd}
/-- the truth of a value -/
def D.tru : D → Option Bool
  | .non => some false
  | .bl b => some b
  | .int i => some (i != 0)
  | .lst xs => some (!xs.isEmpty)
  | .tup xs => some (!xs.isEmpty)
  | _ => none
theorem RpK.length {K : PySem.W.Frag} {H : Hp} : ∀ {vs : List (Key × V)} {ds : List (Key × D)}, RpK K H vs ds → vs.length = ds.length
  | _, _, .nil => rfl
  | _, _, .cons _ q => congrArg (· + 1) (RpK.length q)
theorem isEmpty_len {α β : Type} {xs : List α} {ys : List β} (h : xs.length = ys.length) : xs.isEmpty = ys.isEmpty := by
  cases xs <;> cases ys <;> first | rfl | cases h
theorem Rp.truV {K : PySem.W.Frag} {H : Hp} {v : V} {d : D} {c : Bool} (r : Rp K H v d) (h : d.tru = some c) : TruV K v H c := by
  cases r with
  | non => cases h; rfl
  | bl b => cases h; rfl
  | int i => cases h; rfl
  | lst ha r => cases h; exact .inl ⟨_, SqL.of ha, by rw [isEmpty_len r.length]⟩
  | tup ha r => cases h; exact .inr (.inl ⟨_, ha, by rw [isEmpty_len r.length]⟩)
  | _ => cases h
theorem et_tru {d : D} {c : Bool} (h : EvD G false b b' te ds d) (hc : d.tru = some c) : EtD G b b' (tTru G.K te) ds c := fun gs M H σ S Q k => h gs M H σ S _ fun v d' H' r e l rp => by
  subst r
  exact ⟨c, (rp.mono msk_all).truV hc, k c H' rfl e l⟩
theorem o_isN {K : PySem.W.Frag} {x : D} (h : x ≠ .non) : Op2D K rIsN x .non (.bl false) := fun N b H v u Q hN l r1 r2 k => by
  cases r2
  refine ⟨rfl, ?_⟩
  have e : decide (v = V.non) = false := decide_eq_false fun z => by
    subst z
    cases r1
    exact h rfl
  rw [e]
  exact k _ _ H rfl (Ext.refl H) l (.bl _)
theorem o_isN1 {K : PySem.W.Frag} : Op2D K rIsN .non .non (.bl true) := fun N b H v u Q hN l r1 r2 k => by
  cases r2
  cases r1
  exact ⟨rfl, k _ _ H rfl (Ext.refl H) l (.bl _)⟩
theorem o_notN {K : PySem.W.Frag} {x : D} (h : x ≠ .non) : Op2D K rNotN x .non (.bl true) := fun N b H v u Q hN l r1 r2 k => by
  cases r2
  refine ⟨rfl, ?_⟩
  have e : decide (v = V.non) = false := decide_eq_false fun z => by
    subst z
    cases r1
    exact h rfl
  rw [e]
  exact k _ _ H rfl (Ext.refl H) l (.bl _)
theorem o_notN1 {K : PySem.W.Frag} : Op2D K rNotN .non .non (.bl false) := fun N b H v u Q hN l r1 r2 k => by
  cases r2
  cases r1
  exact ⟨rfl, k _ _ H rfl (Ext.refl H) l (.bl _)⟩
end
end Sh

/-! Sh9: short words. -/
namespace Sh
open PySem PySem.Spec PyProof.Rows L2
theorem EvD.flatT {G : Gx} {b b' : Nat} {te : TE} {ds : List Sd} {d : D} (h : EvD G false b b' te ds d) (f : flatD d = true) : EvD G true b b' te ds d := EvD.flat h f
abbrev allV : List Nat := [0,1,2,3,4,5,6,7,8,9,10,11,12,13,14,15,16,17,18,19,20,21,22,23,24,25,26,27,28,29,30,31,32,33,34,35,36,37,38,39]
theorem w_tg {G : Gx} {b b' : Nat} {te : TE} {g : TG} {ds ds' : List Sd} {d : D} {E : DE} (h : EvD G true b b' te ds d) (t : TgR G.K allV g d ds ds') (k : E.nx ds' b') : Wt G b (tAsg te g) ds E := w_tgt h t k
theorem ws_tg {G : Gx} {b b' : Nat} {te : TE} {g : TG} {ds : List Sd} {R : D → Prop} {E : DE} (h : EvS G true b b' te ds R) (k : ∀ d, R d → ∃ ds', TgR G.K allV g d ds ds' ∧ E.nx ds' b') : Wt G b (tAsg te g) ds E := ws_tgt h k
theorem Op2D.as {K : PySem.W.Frag} {r : R2} {x y z z' : D} (h : Op2D K r x y z') (e : z' = z) : Op2D K r x y z := by rw [← e]; exact h
theorem ClD.as {K : PySem.W.Frag} {r : List V → Hp → VK → Prop} {xs : List D} {z z' : D} (h : ClD K r xs z') (e : z' = z) : ClD K r xs z := by rw [← e]; exact h
theorem Op2.to {K : PySem.W.Frag} {r : R2} {x y z : D} {R : D → Prop} (h : Op2D K r x y z) (i : R z) : Op2 K r x y R := fun N b H v u Q hN l r1 r2 k => h N b H v u Q hN l r1 r2 fun z' d H' e x l rp => k z' d H' (by rw [e]; exact i) x l rp
theorem Op2.id {K : PySem.W.Frag} {r : R2} {x y : D} {R : D → Prop} (h : Op2 K r x y R) : Op2 K r x y R := h
theorem ClA.id {K : PySem.W.Frag} {r : List V → Hp → VK → Prop} {xs : List D} {R : D → Prop} (h : ClA K r xs R) : ClA K r xs R := h
/-! ### powers of small numbers -/
theorem cpow_small {i j : Int} (a : Nat) (h : i.natAbs < 2 ^ a) (h0 : 0 < a) (hj : 0 ≤ j ∧ (a : Int) * j ≤ 2 ^ 27) : CPowW i j := by
  refine ⟨hj.1, ?_⟩
  have hb : Builtin.Int.intBits i ≤ a := by
    unfold Builtin.Int.intBits
    split
    · omega
    · have q := PySem.Flt.log2_lt_of h0 h
      omega
  have h1 : (Builtin.Int.intBits i : Int) * j ≤ (a : Int) * j := Int.mul_le_mul_of_nonneg_right (by omega) hj.1
  omega
/-! ### calls whose one answer is known -/
structure Cal (F : Fd) (es : List D) (z : D) : Prop where
  n : es.length = F.n
  dom : F.dom es
  cost : F.cost es = 0
  res : ∀ d, F.res es d → d = z
  exn : ∀ C x, ¬ F.exn es C x
theorem ev_cal {G : Gx} {p : Bool} {b b1 : Nat} {t : TA} {ds : List Sd} {F : Fd} {n : Nat} {E : L2.St → XK} {es : List D} {z : D} (ha : EaD G p b b1 t ds es) (h : Cal F es z) (hn : es.length = n) :
    EvD G p b b1 (tCl n 0 (SpD G.K F) (fun vs _ => vs) E t tNil) ds z :=
  (evs_cl (F := F) (gD := fun es _ => es) (fs := []) ha ea_nil (fun _ _ _ _ _ r _ => r) rfl fun es' e => by
    subst e
    exact ⟨hn, h.n, h.dom, by rw [h.cost, Nat.zero_add]; exact Nat.le_refl _, fun C x q => absurd q (h.exn C x)⟩).imp fun d ⟨es', e, q⟩ => by
    subst e
    exact h.res d q
/-- .. any of several answers -/
structure Cas (F : Fd) (es : List D) (c : Nat) (R : D → Prop) : Prop where
  n : es.length = F.n
  dom : F.dom es
  cost : F.cost es ≤ c
  res : ∀ d, F.res es d → R d
  exn : ∀ C x, ¬ F.exn es C x
theorem evs_cal {G : Gx} {p : Bool} {b b1 b' c : Nat} {t : TA} {ds : List Sd} {F : Fd} {n : Nat} {E : L2.St → XK} {es : List D} {R : D → Prop} (ha : EaD G p b b1 t ds es) (h : Cas F es c R) (hn : es.length = n) (hb : c + b' ≤ b1) :
    EvS G p b b' (tCl n 0 (SpD G.K F) (fun vs _ => vs) E t tNil) ds R :=
  (evs_cl (F := F) (gD := fun es _ => es) (fs := []) ha ea_nil (fun _ _ _ _ _ r _ => r) rfl fun es' e => by
    subst e
    exact ⟨hn, h.n, h.dom, Nat.le_trans (Nat.add_le_add_right h.cost _) hb, fun C x q => absurd q (h.exn C x)⟩).imp fun d ⟨es', e, q⟩ => by
    subst e
    exact h.res d q
theorem cas_draw {m : Int} (h0 : 0 < m) (h1 : m < 2 ^ 200) : Cas fdDraw [.purse, .int m] 1 (fun d => ∃ i : Int, d = .int i ∧ 0 ≤ i ∧ i < m) :=
  ⟨rfl, ⟨m, rfl, h0, h1⟩, Nat.le_refl _, fun d ⟨m', i, e, h2, h3, h4⟩ => by
    cases e
    exact ⟨i, h2, h3, h4⟩, fun _ _ q => q⟩
theorem cl_make {ns : List Int} {k : Int} (h0 : 0 ≤ k) (h1 : k < 1000) : Cal fdMake [.scr ns, .int k] .purse := ⟨rfl, ⟨ns, k, rfl, h0, h1⟩, rfl, fun d h => h, fun _ _ q => q⟩
theorem cl_makeI {c k : Int} (h0 : 0 ≤ k) (h1 : k < 1000) : Cal fdMakeI [.int c, .int k] .purse := ⟨rfl, ⟨c, k, rfl, h0, h1⟩, rfl, fun d h => h, fun _ _ q => q⟩
/-! ### stores to items -/
def rSetD : V → V → V → Hp → (Hp → Prop) → Prop := fun o i v H Q => ∃ a H', o = .ref a ∧ DPut H a i v H' ∧ Q H'
def rSetA : V → V → V → Hp → (Hp → Prop) → Prop := fun o i v H Q => rSetL o i v H Q ∨ rSetD o i v H Q
theorem set_dict {X : Cx} (hu : X.A.units + 1 < cLine) : PSet X rSetD := by
  intro pins s σ H o i v ov iv u Q I ro ri rv h
  obtain ⟨a, H', rfl, g, q⟩ := h
  obtain rfl : ov = Value.ref a := ro
  exact d_setItem hu I g ri rv fun s4 I4 => ⟨H', I4, q⟩
theorem g_set {X : Cx} {k : Nat} (hr : Room k X.A) : PSet X rSetA := by
  intro pins s σ H o i v ov iv u Q I ro ri rv h
  rcases h with h | h
  · exact set_list pins s σ H o i v ov iv u Q I ro ri rv h
  · exact set_dict (hu_of hr) pins s σ H o i v ov iv u Q I ro ri rv h
theorem ixN_nn {n : Nat} {k : Int} (h0 : 0 ≤ k) (h : k < n) : ixN n k = some k.toNat := by
  unfold ixN
  rw [if_pos h0, if_pos h]
section
variable {G : Gx} {b b1 b2 : Nat} {te ti : TE} {ds : List Sd} {R : D → Prop} {d : D} {E : DE} {i : Nat} {k : Int} {xs : List D}
/-- xs[k] = e, xs handed in to be changed -/
theorem w_setP {a : Addr} (hi : ds[i]? = some (.par a xs)) (h : EvD G true b b1 te ds d) (hk : EvD G true b1 b2 ti ds (.int k)) (h0 : 0 ≤ k) (h1 : k < xs.length) (kk : E.nx (ds.set i (.par a (xs.set k.toNat d))) b2) :
    Wt G b (tAsg te (gSub (tVar i) ti rSetA)) ds E := fun gs M H σ S Dn w => by
  refine h gs M H σ S _ fun v d' H1 r e1 l1 rp => ?_
  subst r
  have S1 := S.step e1 l1
  obtain ⟨vs, hσ, m, ha, rr, n0⟩ := S1.parL hi
  refine ⟨.ref a, hσ, ?_⟩
  refine hk gs M H1 σ S1 _ fun v2 d2 H2 r2 e2 l2 rp2 => ?_
  subst r2
  cases rp2
  have S2 := S1.step e2 l2
  have ha2 : H2 a = some (.lst vs) := e2.keep _ _ ha fun _ z => nomatch z
  have hl : k < vs.length := by rw [rr.length]; exact h1
  exact .inl ⟨a, vs, k, k.toNat, rfl, rfl, ha2, ixN_nn h0 hl, w.nx M b2 _ σ _ (S2.chgP hi (RpA.set (rp.mono (msk_mono e2.toKp)) _ (rr.mono (msk_mono e2.toKp)))) kk⟩
/-- .. our own -/
theorem w_setO (hi : ds[i]? = some (.own xs)) (h : EvD G true b b1 te ds d) (hk : EvD G true b1 b2 ti ds (.int k)) (h0 : 0 ≤ k) (h1 : k < xs.length) (kk : E.nx (ds.set i (.own (xs.set k.toNat d))) b2) :
    Wt G b (tAsg te (gSub (tVar i) ti rSetA)) ds E := fun gs M H σ S Dn w => by
  refine h gs M H σ S _ fun v d' H1 r e1 l1 rp => ?_
  subst r
  have S1 := S.step e1 l1
  obtain ⟨a, vs, hσ, m, ha, rr, n0⟩ := S1.ownL hi
  refine ⟨.ref a, hσ, ?_⟩
  refine hk gs M H1 σ S1 _ fun v2 d2 H2 r2 e2 l2 rp2 => ?_
  subst r2
  cases rp2
  have S2 := S1.step e2 l2
  have ha2 : H2 a = some (.lst vs) := e2.keep _ _ ha fun _ z => nomatch z
  have hl : k < vs.length := by rw [rr.length]; exact h1
  exact .inl ⟨a, vs, k, k.toNat, rfl, rfl, ha2, ixN_nn h0 hl, w.nx M b2 _ σ _ (S2.chg hi hσ (RpA.set (rp.mono (msk_mono e2.toKp)) _ (rr.mono (msk_mono e2.toKp)))) kk⟩
end
end Sh

/-! Sh10: a law's own head. -/
namespace Sh
open PySem PySem.Spec PyProof.Rows L2
theorem law_in {K : PySem.W.Frag} {F : Fd} (h1 : F.n = 1) (hdom : ∀ ns : List Int, ns.length ≤ 63 → (∀ z ∈ ns, Builtin.Int.intBits z ≤ 1048576) → F.dom [.scr ns]) (hc : ∀ ns : List Int, ns.length ≤ 63 → F.cost [.scr ns] ≤ LIM) (hr : ∀ ds d, F.res ds d → d = .bl true) (he : ∀ ds C x, ¬ F.exn ds C x)
    {H : Hp} {a : Addr} {ns : List Int} (hl : ns.length ≤ 63) (hb : ∀ z ∈ ns, Builtin.Int.intBits z ≤ 1048576) (hO : Only H) (hS : SqL K H a (ns.map V.int)) : SpD K F [.ref a] H (fun v _ => v = .bl true) fun _ _ _ => False := by
  refine ⟨[.scr ns], fun _ => False, 0, fun _ z => z.elim, ⟨0, fun b φ e => ?_, ?_⟩, .cons (.scr ?_) .nil, h1.symm, hdom ns hl hb, fun v d H' r e l rp _ => ?_, fun C dd fsV fs H' z => absurd z (he _ _ _)⟩
  · rcases hO b with z | ⟨o, xs, z⟩
    · rw [e] at z
      cases z
    · rw [e] at z
      cases z
  · have := hc ns hl
    omega
  · refine Kp.scr (H := H) ⟨fun b o h hp => ?_, fun b n h => ?_⟩ ?_
    · rw [msk_no (fun z => z)]
      exact h
    · exact ⟨n, by rw [msk_no (fun z => z)]; exact h⟩
    · rcases hS with (z | z) | z
      · rcases hO a with q | ⟨o, xs, q⟩
        · rw [z] at q
          cases q
        · rw [z] at q
          cases q
      · exact .inl z
      · exact .inr z
  · have e2 := hr _ _ r
    subst e2
    cases rp
    rfl
theorem law_cx {P : Program} {w : World} {H : Hp} {s : Shared} {e : Value} {s' : Shared} (h : L2.CX P w [] H s (fun _ _ _ => False) e s') : False := by
  obtain ⟨a, B, H', cls, d, h1, h2, h3, h4, h5, h6, h7, h8⟩ := h
  exact h8
end Sh

/-! Sh11: a, *b, c = ..; isinstance, slices, sums, joins. -/
namespace Sh
open PySem PySem.Spec PySem.Calls PyProof.Rows L2

/-! ### a, *b, c = e -/
section
variable {prog : Program} {w : World} {A : Around} {E : Value → Shared → Prop} {s : Shared}
theorem star_mid {xs : List Value} {n i : Nat} {Q : List Value → Shared → Prop} (hi : i < n) (hn : n ≤ xs.length + 1) (hz : xs.length ≤ 16384)
    (hq : ∀ (D : Addr) h', (∀ b o, s.heap.get? b = some o → h'.get? b = some o) → s.heap.objs.size ≤ D → h'.get? D = some { cls := .type "list", dict := none, data := .seq ((xs.drop i).take (xs.length + 1 - n)).toArray 0, slots := #[] } → Q (xs.take i ++ [.ref D] ++ (xs.drop i).drop (xs.length + 1 - n)) { s with heap := h' }) :
    wpAny (model prog w) A (newList ((xs.drop i).take ((xs.drop i).length - (n - 1 - i))) >>= fun d => pure (xs.take i ++ [d] ++ (xs.drop i).drop ((xs.drop i).length - (n - 1 - i)))) Q E s := by
  have hmid : (xs.drop i).length - (n - 1 - i) = xs.length + 1 - n := by
    rw [List.length_drop]
    omega
  rw [hmid]
  refine wpAny_bind (m := newList _) (wpAny_newObj_type (wpAny_pure (hq _ _ (fun b o e => Heap.get?_push_of_some _ e) (Nat.le_refl _) (Heap.get?_push_size _ rfl))) ?_)
  show ((xs.drop i).take (xs.length + 1 - n)).toArray.size ≤ sizeLine
  rw [List.size_toArray, List.length_take, List.length_drop, sizeLine_eq]
  omega
theorem star_tup {l : Addr} {xs : List Value} {n i : Nat} {Q : List Value → Shared → Prop} (hl : IsTup s.heap l xs.toArray) (hh : A.handled = none) (hi : i < n) (hn : n ≤ xs.length + 1) (hz : xs.length ≤ 16384)
    (hq : ∀ (D : Addr) (h₂ h' : Heap) tk, (∀ b o, s.heap.get? b = some o → h₂.get? b = some o) → (∀ b o, h₂.get? b = some o → h'.get? b = some o) → h₂.objs.size ≤ D → h'.get? D = some { cls := .type "list", dict := none, data := .seq ((xs.drop i).take (xs.length + 1 - n)).toArray 0, slots := #[] } → Q (xs.take i ++ [.ref D] ++ (xs.drop i).drop (xs.length + 1 - n)) { s with heap := h', toks := tk }) :
    wpAny (model prog w) A (unpackItems (.ref l) n (some i)) Q E s := by
  have hlt : l ≠ s.heap.objs.size := by obtain ⟨o, ho, _⟩ := hl; exact Nat.ne_of_lt (Heap.lt_size ho)
  unfold unpackItems
  refine wpAny_bind ?_
  unfold notIterableAtAll
  refine wpAny_bind (wpAny_specialOf hl.typeIs slot_tuple_iter.lookup ?_)
  refine wpAny_pure ?_
  simp only [Bool.false_eq_true, if_false]
  refine wpAny_bind (wpAny_holding (iter_tuple hl ?_))
  refine wpAny_bind (wpAny_holding (draw_tuple hlt i 0 _ _ ⟨_, Heap.get?_push_size _ rfl, rfl, rfl⟩ (hl.push _) (by rw [List.size_toArray]; omega) fun h₁ hit₁ hs₁ => ?_))
  have hl₁ : IsTup h₁ l xs.toArray := (hl.push _).extBut hs₁.extBut hlt
  rw [Nat.zero_add] at hit₁
  obtain ⟨oi, hoi, _⟩ := id hit₁
  obtain ⟨ol, hol, _⟩ := id hl₁
  rw [List.drop_zero]
  have hfl : (xs.take i).length = i := by rw [List.length_take]; omega
  rw [if_neg (show ¬ ((xs.take i).length < i) by rw [hfl]; omega)]
  refine wpAny_bind (wpAny_holding (PySem.W.kun_collect (s := { s with heap := h₁ }) (T := "tuple_iterator") (.inr (.inr (.inr rfl))) (Walks.tuple (A := A.in1) hh s.heap.objs.size l hlt xs.toArray) (fun j u st => st.1.typeIs) (k := i) (by rw [List.size_toArray]; omega) ⟨hit₁, hl₁⟩ (Heap.lt_size hoi) (Heap.lt_size hol) (fun h₂ tk hk => ?_) (by rw [List.size_toArray, sizeLine_eq]; omega)))
  show wpAny _ _ (if (xs.drop i).length < n - 1 - i then _ else _) _ _ _
  rw [if_neg (by rw [List.length_drop]; omega)]
  have he : ∀ b o, s.heap.get? b = some o → h₂.get? b = some o := fun b o e => hk b o (Nat.ne_of_lt (Heap.lt_size e)) (hs₁.extBut b o (Nat.ne_of_lt (Heap.lt_size e)) (Heap.get?_push_of_some _ e))
  exact star_mid (s := { s with heap := h₂, toks := tk }) hi hn hz fun D h' k1 k2 k3 => hq D h₂ h' tk he k1 k2 k3
theorem star_lst {l : Addr} {xs : List Value} {n i : Nat} {Q : List Value → Shared → Prop} (hl : s.heap.IsList l xs.toArray) (hh : A.handled = none) (hi : i < n) (hn : n ≤ xs.length + 1) (hz : xs.length ≤ 16384)
    (hq : ∀ (D : Addr) (h₂ h' : Heap) tk, (∀ b o, s.heap.get? b = some o → h₂.get? b = some o) → (∀ b o, h₂.get? b = some o → h'.get? b = some o) → h₂.objs.size ≤ D → h'.get? D = some { cls := .type "list", dict := none, data := .seq ((xs.drop i).take (xs.length + 1 - n)).toArray 0, slots := #[] } → Q (xs.take i ++ [.ref D] ++ (xs.drop i).drop (xs.length + 1 - n)) { s with heap := h', toks := tk }) :
    wpAny (model prog w) A (unpackItems (.ref l) n (some i)) Q E s := by
  have hlt : l ≠ s.heap.objs.size := by obtain ⟨o, ho, _⟩ := hl; exact Nat.ne_of_lt (Heap.lt_size ho)
  unfold unpackItems
  refine wpAny_bind ?_
  unfold notIterableAtAll
  refine wpAny_bind (wpAny_specialOf hl.typeIs slot_list_iter.lookup ?_)
  refine wpAny_pure ?_
  simp only [Bool.false_eq_true, if_false]
  refine wpAny_bind (wpAny_holding (wpAny_pyIter_list hl ?_))
  refine wpAny_bind (wpAny_holding (PySem.W.kun_draw hlt i 0 _ _ ⟨_, Heap.get?_push_size _ rfl, rfl, rfl⟩ (hl.push _) (by rw [List.size_toArray]; omega) fun h₁ hit₁ hs₁ => ?_))
  have hl₁ : h₁.IsList l xs.toArray := (hl.push _).extBut hs₁.extBut hlt
  rw [Nat.zero_add] at hit₁
  obtain ⟨oi, hoi, _⟩ := id hit₁
  obtain ⟨ol, hol, _⟩ := id hl₁
  rw [List.drop_zero]
  have hfl : (xs.take i).length = i := by rw [List.length_take]; omega
  rw [if_neg (show ¬ ((xs.take i).length < i) by rw [hfl]; omega)]
  refine wpAny_bind (wpAny_holding (PySem.W.kun_collect (s := { s with heap := h₁ }) (T := "list_iterator") (.inr (.inr (.inl rfl))) (Walks.list (A := A.in1) hh s.heap.objs.size l hlt xs.toArray) (fun j u st => st.1.typeIs) (k := i) (by rw [List.size_toArray]; omega) ⟨hit₁, hl₁⟩ (Heap.lt_size hoi) (Heap.lt_size hol) (fun h₂ tk hk => ?_) (by rw [List.size_toArray, sizeLine_eq]; omega)))
  show wpAny _ _ (if (xs.drop i).length < n - 1 - i then _ else _) _ _ _
  rw [if_neg (by rw [List.length_drop]; omega)]
  have he : ∀ b o, s.heap.get? b = some o → h₂.get? b = some o := fun b o e => hk b o (Nat.ne_of_lt (Heap.lt_size e)) (hs₁.extBut b o (Nat.ne_of_lt (Heap.lt_size e)) (Heap.get?_push_of_some _ e))
  exact star_mid (s := { s with heap := h₂, toks := tk }) hi hn hz fun D h' k1 k2 k3 => hq D h₂ h' tk he k1 k2 k3
end
/-- .. = v, the i-th of n targets takes what is left over -/
def gStar (K : PySem.W.Frag) (n i : Nat) (t : TGs) : TG := fun v σ H Q => ∃ a xs, v = .ref a ∧ (SqT K H a xs ∨ SqL K H a xs) ∧ n ≤ xs.length + 1 ∧ xs.length ≤ 16384 ∧
  ∀ D, H D = none → t (xs.take i ++ [.ref D] ++ (xs.drop i).drop (xs.length + 1 - n)) σ (upd H D (.lst ((xs.drop i).take (xs.length + 1 - n)))) Q
theorem Vals.take {xs : List V} {us : List Value} (r : Vals xs us) : ∀ n, Vals (xs.take n) (us.take n) := fun n => by
  induction r generalizing n with
  | nil => rw [List.take_nil, List.take_nil]; exact .nil
  | cons r rr ih =>
    cases n with
    | zero => exact .nil
    | succ n => exact .cons r (ih n)
theorem Vals.drop {xs : List V} {us : List Value} (r : Vals xs us) : ∀ n, Vals (xs.drop n) (us.drop n) := fun n => by
  induction r generalizing n with
  | nil => rw [List.drop_nil, List.drop_nil]; exact .nil
  | cons r rr ih =>
    cases n with
    | zero => exact .cons r rr
    | succ n => exact ih n
theorem Vals.app {xs ys : List V} {us ws : List Value} (r : Vals xs us) (q : Vals ys ws) : Vals (xs ++ ys) (us ++ ws) := by
  induction r with
  | nil => exact q
  | cons r rr ih => exact .cons r ih
section
variable {X : Cx} {pos : Pos}
theorem pgs_star {e : Expr} {es : List Expr} {t : TG} {u : TGs} {p : Pos} (h1 : PG X e t) (h2 : PGs X es u)
    (hs : (assignEach (.Starred e p :: es) X.env).map (·.2) = assign e X.env :: (assignEach es X.env).map (·.2) := by rfl) : PGs X (.Starred e p :: es) (gCons t u) := by
  refine ⟨fun pins s σ H vs us Q I r h => ?_⟩
  obtain ⟨v, vr, e1, h⟩ := h
  subst e1
  cases r with
  | cons r rr =>
    rw [hs]
    refine assignInOrder_cons (thn (h1.run pins s σ H _ _ _ I r h) fun _ s1 ⟨σ1, H1, I1, q1⟩ => ?_)
    exact h2.run pins s1 σ1 H1 _ _ Q I1 rr q1
theorem g_star {K : PySem.W.Frag} (hK : X.K = K) {es : List Expr} {k : Nat} {t : TGs} {n i : Nat} (hc : X.calm = true) (h : PGs X es t)
    (hn : (assignEach es X.env).length = n := by rfl) (hst : (assignEach es X.env).findIdx? (·.1) = some i := by rfl) (hi : i < n := by decide) : PG X (.Tuple es k pos) (gStar K n i t) := by
  subst hK
  refine ⟨fun pins s σ H v u Q I r hw => ?_⟩
  obtain ⟨a, xs, e1, hq, h2, h3, hw⟩ := hw
  subst e1
  cases r
  rw [PyProof.Rows.assign_Tuple]
  refine wpAny_bind (wpAny_standAt ?_)
  unfold unpack
  rw [hn, hst]
  have fin : ∀ (its : List Value), Vals xs its → ∀ (D : Addr) (h₂ h' : Heap) tk, (∀ b o, s.heap.get? b = some o → h₂.get? b = some o) → (∀ b o, h₂.get? b = some o → h'.get? b = some o) → h₂.objs.size ≤ D →
      h'.get? D = some { cls := .type "list", dict := none, data := .seq ((its.drop i).take (its.length + 1 - n)).toArray 0, slots := #[] } →
      wpAny (model X.prog X.w) X.A (assignInOrder ((assignEach es X.env).map (·.2)) (its.take i ++ [.ref D] ++ (its.drop i).drop (its.length + 1 - n))) (fun _ s' => ∃ σ' H', Inv X pins σ' H' s' ∧ Q σ' H') X.xe { s with heap := h', toks := tk } := fun its rv D h₂ h' tk k1 k2 k3 k4 => by
    have I1 : Inv X pins σ H { s with heap := h₂, toks := tk } := I.kept k1
    have hD : H D = none := I1.hok.fresh k3
    rw [← rv.length] at k4 ⊢
    have rm : Vals ((xs.drop i).take (xs.length + 1 - n)) ((its.drop i).take (xs.length + 1 - n)) := Vals.take (Vals.drop rv i) _
    have I2 : Inv X pins σ (upd H D (.lst ((xs.drop i).take (xs.length + 1 - n)))) { s with heap := h', toks := tk } := I1.laid (t' := tk) k2 k3 (show ObjOk X.prog X.w _ h' _ (.lst _) from ⟨by rw [List.length_take, List.length_drop, sizeLine_eq]; omega, _, 0, rm, k4⟩)
    exact h.run pins _ σ _ _ _ Q I2 (Vals.app (Vals.app (Vals.take rv i) (.cons (show RelV (.ref D) (.ref D) from rfl) .nil)) (Vals.drop (Vals.drop rv i) _)) (hw D hD)
  rcases hq with hq | hq
  · obtain ⟨its, rv, ht, hz⟩ := I.tuple hq
    exact wpAny_bind (wpAny_holding (star_tup ht (I.ok.hd hc) hi (by rw [← rv.length]; exact h2) (by rw [← rv.length]; exact h3) (fin its rv)))
  · obtain ⟨its, rv, ht, hz⟩ := I.list hq
    exact wpAny_bind (wpAny_holding (star_lst ht.isList (I.ok.hd hc) hi (by rw [← rv.length]; exact h2) (by rw [← rv.length]; exact h3) (fin its rv)))
end
/-- by data -/
def D.items : D → Option (List D)
  | .tup xs => some xs
  | .lst xs => some xs
  | _ => none
theorem w_star {G : Gx} {b b' : Nat} {te : TE} {ds : List Sd} {d : D} {E : DE} {is : List Nat} {n i : Nat} {es : List D} (h : EvD G true b b' te ds d) (hd : d.items = some es) (h2 : n ≤ es.length + 1) (h3 : es.length ≤ 16384) (hi : i < n) (hl : is.length = n)
    (k : E.nx (setAll ds is (es.take i ++ [.lst ((es.drop i).take (es.length + 1 - n))] ++ (es.drop i).drop (es.length + 1 - n))) b') : Wt G b (tAsg te (gStar G.K n i (gNames is))) ds E := fun gs M H σ S Dn w =>
  h gs M H σ S _ fun v d' H' r e l rp => by
    subst r
    have S1 := S.step e l
    have main : ∀ a vs, v = .ref a → (SqT G.K H' a vs ∨ SqL G.K H' a vs) → RpA G.K (msk M H') vs es → gStar G.K n i (gNames is) v σ H' Dn.nx := fun a vs e1 hs ra => by
      refine ⟨a, vs, e1, hs, by rw [ra.length]; exact h2, by rw [ra.length]; exact h3, fun D hD => ?_⟩
      rw [ra.length]
      have rm : RpA G.K (msk M H') ((vs.drop i).take (es.length + 1 - n)) ((es.drop i).take (es.length + 1 - n)) := RpA.take _ (RpA.drop i ra)
      have e2 : Ext H' (upd H' D (.lst ((vs.drop i).take (es.length + 1 - n)))) := Ext.new hD
      have S2 := S1.step e2 (S1.lim.upd fun _ z => nomatch z)
      have kp := msk_mono (M := M) e2.toKp
      refine names_run is _ _ σ ds ?_ S2 (((RpA.take i ra).mono kp).append (.cons (new_lst S1.liv hD rm) .nil) |>.append ((RpA.drop _ (RpA.drop i ra)).mono kp)) fun σ' S' => w.nx M b' _ σ' _ S' k
      have := ra.length
      simp only [List.length_append, List.length_take, List.length_drop, List.length_cons, List.length_nil]
      omega
    cases rp with
    | tup hs ha => cases hd; exact main _ _ rfl (.inl (sqt_unm hs)) ha
    | lst hs ha => cases hd; exact main _ _ rfl (.inr (SqL.of (msk_of hs).2)) ha
    | _ => cases hd
end Sh

/-! Sh12: more words by data: slices, joins, sums, kinds. -/
namespace Sh
open PySem PySem.Spec PySem.Calls PyProof.Rows L2

/-! ### a source made of a number and a place -/
section
variable {P : Program} {w : World} {K : PySem.W.Frag} {mg : Str → Option Value} {base : Heap} {k : Nat} {f : Addr} {fd : FuncData} {ps : List Str}
theorem makeI_fn {x qual : Str} {st : Stmt} {N : List Str} (U : Fun K x qual st f fd) (S : FnScope N ps (defScope st)) (hps : ps.length = 2)
    (hbody : ∀ (cdv : Value) (A : Around) (outer : List Env) (s : Shared) (H : Hp) (E : XK), Room k (A.deeper (envOfC qual (defScope st) s.heap.objs.size f cdv)) → Takes (cxOf (L2.CX P w) P w K mg base N qual (defScope st) f cdv A outer s H E) (WD E) →
      ∃ t, PSs (cxOf (L2.CX P w) P w K mg base N qual (defScope st) f cdv A outer s H E) (defBody st) t ∧
        ∀ (M0 : Addr → Prop) (n c : Int) (b : Nat), 0 ≤ c → c < 1000 → Wt (gMake K H M0 E) b t (slots N.length [.int n, .int c]) (eMake b)) :
    FnOk P w K mg base (L2.CX P w) (k + 1) f fd ps (SpD K fdMakeI) := by
  refine makeI_view ?_ hps
  obtain ⟨oc, od, kV, doc, pm, an, cdv, ct, osl, rfl, lk, hcd⟩ := U.ex
  refine fn_of lk hcd S (fun vs H Q E ⟨n, c, e, _⟩ => by rw [e, hps]; rfl) fun A outer s H vs Q E hr hsp => ?_
  obtain ⟨t, h1, h2⟩ := hbody cdv A outer s H E hr (takes_of (E := E) rfl rfl rfl rfl)
  obtain ⟨n, c, rfl, c0, c1, b, hl, k⟩ := hsp
  refine ⟨t, h1, h2 (fun q => H q ≠ none) n c b c0 c1 [] _ H _ (start_stt (fun q h => h) hl (.cons (.int n) (.cons (.int c) .nil))) _ ⟨fun _ _ _ _ _ _ e => e.elim, fun M b' H' σ' ds' v d S' e rp _ => ?_, fun _ _ _ _ _ _ e => e.elim, fun _ _ _ _ _ _ e => e.elim⟩⟩
  obtain ⟨hb', x, y, rfl, g⟩ := e
  cases rp with
  | @lst q vs _ ha r =>
    cases r with
    | cons r1 r => cases r with | cons r2 r => cases r with | cons r3 r =>
      cases r
      cases r1
      cases r2
      cases r3
      obtain ⟨m1, m2⟩ := msk_of ha
      have hq : H q = none := by
        cases e : H q with
        | none => rfl
        | some o => exact absurd (by show H q ≠ none; rw [e]; exact fun z => nomatch z) m1
      exact k q x y H' hq g S'.ext (S'.lim.mono hb') m2
end

/-! ### calls whose answer nothing else knows -/
section
variable {G : Gx} {p : Bool} {b b' b1 b2 : Nat} {te ta tb : TE} {t tk : TA} {ds : List Sd} {F : Fd} {n m : Nat} {E : L2.St → XK} {es : List D}
theorem eos_cl {c : Nat} {R : List D → Prop} (ha : EaD G true b b1 t ds es) (ho : F.own = true) (h1 : es.length = F.n) (h2 : F.dom es) (h3 : F.cost es ≤ c) (h4 : ∀ d, F.res es d → ∃ xs, d = .lst xs ∧ R xs) (h5 : ∀ C x, ¬ F.exn es C x) (hn : es.length = n) (hb : c + b' ≤ b1) (ho2 : F.own2 = 0 := by rfl) :
    EvO G b b' (tCl n 0 (SpD G.K F) (fun vs _ => vs) E t tNil) ds R := fun gs M H σ S Q k =>
  ha gs M H σ S _ fun vs es' H1 r1 e1 l1 rp1 => by
    subst r1
    have S1 := S.step e1 l1
    refine ⟨by rw [rp1.length, hn], rfl, es', M, b', S1.liv, l1.mono (Nat.le_trans (Nat.add_le_add_right h3 _) hb), rp1, h1, h2, fun v d H3 rd e3 l3 rp3 o => ?_, fun C dd fsV x H3 rx => absurd rx (h5 C x)⟩
    have o := o ho
    rw [ho2] at o
    obtain ⟨a, ws, xs, rfl, rfl, q1, q2, q3⟩ := o
    obtain ⟨ys, e4, r4⟩ := h4 _ rd
    cases e4
    exact k a ws xs H3 r4 (e1.trans e3) l3 (e1.free q1) q2 q3
/-- a copy of a list or a tuple -/
theorem eo_listof {K : PySem.W.Frag} {r : List V → Hp → VK → Prop} (hr : ∀ (p : Addr) (ys : List V) (H : Hp) (Q : VK), (SqL G.K H p ys ∨ SqT G.K H p ys) → (∀ l, H l = none → Q (.ref l) (upd H l (.lst ys))) → r [.ref p] H Q)
    {d : D} {xs : List D} (h : EaD G true b b' t ds [d]) (hd : d.items = some xs) : EoD G b b' (tCB r t) ds xs := fun gs M H σ S Q k =>
  h gs M H σ S _ fun vs es H1 r1 e1 l1 rp => by
    subst r1
    cases rp with
    | cons rp r2 =>
      cases r2
      have main : ∀ a ws, (SqL G.K H1 a ws ∨ SqT G.K H1 a ws) → RpA G.K (msk M H1) ws xs → r [.ref a] H1 Q := fun a ws hs ra => hr a ws H1 Q hs fun l hl => k l ws xs _ rfl (e1.trans (Ext.new hl)) (l1.upd fun _ z => nomatch z) (e1.free hl) upd_same (eo_new (H' := H1) hl ra)
      cases rp with
      | tup hs ha => cases hd; exact main _ _ (.inr (sqt_unm hs)) ha
      | lst hs ha => cases hd; exact main _ _ (.inl (SqL.of (msk_of hs).2)) ha
      | _ => cases hd
end
/-- a copy of our own -/
def rListOf (K : PySem.W.Frag) : List V → Hp → VK → Prop := fun xs H Q => ∃ p ys, xs = [.ref p] ∧ (SqL K H p ys ∨ SqT K H p ys) ∧ ∀ l, H l = none → Q (.ref l) (upd H l (.lst ys))
theorem g_listof {X : Cx} {K : PySem.W.Frag} (hK : X.K = K) : CallR X (.type "list") (rListOf K) := by subst hK; exact call_list_of
def rTupOf (K : PySem.W.Frag) : List V → Hp → VK → Prop := fun xs H Q => ∃ p ys, xs = [.ref p] ∧ ((SqL K H p ys ∧ ∀ l, H l = none → Q (.ref l) (upd H l (.tup ys))) ∨ (SqT K H p ys ∧ Q (.ref p) H))
theorem g_tupof {X : Cx} {K : PySem.W.Frag} (hK : X.K = K) : CallR X (.type "tuple") (rTupOf K) := by subst hK; exact call_tuple_of
section
variable {G : Gx} {p : Bool} {b b' b1 b2 b3 : Nat} {te ta tb : TE} {t tk : TA} {ds : List Sd} {K : PySem.W.Frag} {d x y z : D} {xs ys : List D} {i j : Int}
theorem eo_list (h : EaD G true b b' t ds [d]) (hd : d.items = some xs) : EoD G b b' (tCB (rListOf G.K) t) ds xs := eo_listof (K := G.K) (fun p ys H Q hs k => ⟨p, ys, rfl, hs, k⟩) h hd
theorem eo_listOwn {i : Nat} (hi : ds[i]? = some (.own xs)) : EoD G b b (tCB (rListOf G.K) (tCons (tVar i) tNil)) ds xs := fun gs M H σ S Q k => by
  obtain ⟨a, vs, hσ, m, ha, r, n0⟩ := S.ownL hi
  exact ⟨.ref a, hσ, a, vs, rfl, .inl (SqL.of ha), fun l hl => k l vs xs _ rfl (Ext.new hl) (S.lim.upd fun _ z => nomatch z) hl upd_same (eo_new (H' := H) hl r)⟩
theorem c_listof (hd : d.items = some xs) : ClD K (rListOf K) [d] (.lst xs) := fun N b H vs Q hN l r k => by
  cases r with
  | cons rp r2 =>
    cases r2
    cases rp with
    | tup hs ha => cases hd; exact ⟨_, _, rfl, .inr (sqt_unm hs), fun q hq => k _ _ _ rfl (Ext.new hq) (l.upd fun _ z => nomatch z) (new_lst hN hq ha)⟩
    | lst hs ha => cases hd; exact ⟨_, _, rfl, .inl (SqL.of (msk_of hs).2), fun q hq => k _ _ _ rfl (Ext.new hq) (l.upd fun _ z => nomatch z) (new_lst hN hq ha)⟩
    | _ => cases hd
theorem c_tupof (hd : d.items = some xs) : ClD K (rTupOf K) [d] (.tup xs) := fun N b H vs Q hN l r k => by
  cases r with
  | cons rp r2 =>
    cases r2
    cases rp with
    | tup hs ha => cases hd; exact ⟨_, _, rfl, .inr ⟨sqt_unm hs, k _ _ _ rfl (Ext.refl H) l (.tup hs ha)⟩⟩
    | lst hs ha => cases hd; exact ⟨_, _, rfl, .inl ⟨SqL.of (msk_of hs).2, fun q hq => k _ _ _ rfl (Ext.new hq) (l.upd fun _ z => nomatch z) (new_tup hN hq ha)⟩⟩
    | _ => cases hd

/-! ### + of tuples, of lists -/
theorem o_catT (hl : xs.length + ys.length ≤ 100000) : Op2D K (rAddA K) (.tup xs) (.tup ys) (.tup (xs ++ ys)) := fun N b H v u Q hN l r1 r2 k => by
  cases id r1 with
  | @tup a vs _ h1 a1 =>
    cases id r2 with
    | @tup c ws _ h2 a2 =>
      have e1 := a1.length
      have e2 := a2.length
      refine .inr (.inr (.inr ⟨a, c, vs, ws, rfl, rfl, sqt_unm h1, sqt_unm h2, by rw [e1, e2]; exact Nat.le_trans hl (by decide), fun z => ?_, fun z z2 => ?_, fun z z2 q hq => ?_⟩))
      · subst z
        cases a1
        exact k _ _ _ rfl (Ext.refl H) l (by rw [List.nil_append]; exact r2)
      · subst z2
        cases a2
        exact k _ _ _ rfl (Ext.refl H) l (by rw [List.append_nil]; exact r1)
      · exact k _ _ _ rfl (Ext.new hq) (l.upd fun _ z => nomatch z) (new_tup hN hq (a1.append a2))
theorem o_catL (hl : xs.length + ys.length ≤ 100000) : Op2D K (rAddA K) (.lst xs) (.lst ys) (.lst (xs ++ ys)) := fun N b H v u Q hN l r1 r2 k => by
  cases r1 with
  | @lst a vs _ h1 a1 =>
    cases r2 with
    | @lst c ws _ h2 a2 =>
      have e1 := a1.length
      have e2 := a2.length
      exact .inr (.inr (.inl ⟨a, c, vs, ws, rfl, rfl, (msk_of h1).2, (msk_of h2).2, by rw [e1, e2]; exact Nat.le_trans hl (by decide), fun q hq => k _ _ _ rfl (Ext.new hq) (l.upd fun _ z => nomatch z) (new_lst hN hq (a1.append a2))⟩))
theorem o_addS {s u : Str} (h : s.length + u.length ≤ 100000) : Op2D K (rAddA K) (.str s) (.str u) (.str (s ++ u)) := fun N b H v w Q hN l r1 r2 k => by
  cases r1
  cases r2
  exact .inr (.inl ⟨s, u, rfl, rfl, Nat.le_trans h (by decide), k _ _ _ rfl (Ext.refl H) l (.str _)⟩)
theorem o_rep (h0 : -(2 ^ 62) ≤ i ∧ i < 2 ^ 62) (hl : xs.length * i.toNat ≤ 100000) : Op2D K rMulA (.lst xs) (.int i) (.lst (List.replicate i.toNat xs).flatten) := fun N b H v u Q hN l r1 r2 k => by
  cases r2
  cases r1 with
  | @lst a vs _ h1 a1 =>
    have rep : ∀ n : Nat, RpA K (msk N H) (List.replicate n vs).flatten (List.replicate n xs).flatten := fun n => by
      induction n with
      | zero => exact .nil
      | succ n ih =>
        rw [List.replicate_succ, List.replicate_succ, List.flatten_cons, List.flatten_cons]
        exact a1.append ih
    refine .inr ⟨a, i, vs, rfl, rfl, (msk_of h1).2, by omega, by omega, by rw [a1.length]; exact Nat.le_trans hl (by decide), fun q hq => k _ _ _ rfl (Ext.new hq) (l.upd fun _ z => nomatch z) (new_lst hN hq (rep _))⟩

/-! ### slices -/
def slcD (xs : List D) (lo hi : Option Int) : List D := (xs.drop (HT.sIx xs.length 0 lo)).take (HT.sIx xs.length xs.length hi - HT.sIx xs.length 0 lo)
theorem RpA.cut {H : Hp} {vs : List V} {ds : List D} (r : RpA K H vs ds) (lo hi : Option Int) : RpA K H (cutV vs lo hi) (slcD ds lo hi) := by
  unfold cutV slcD
  rw [r.length]
  exact RpA.take _ (RpA.drop _ r)
def rSlG (K : PySem.W.Frag) : V → Option Int → Option Int → Hp → VK → Prop := fun x lo hi H Q => rSlL K x lo hi H Q ∨ rSlA K x lo hi H Q ∨ rSlS x lo hi H Q
theorem g_slice {X : Cx} (hK : X.K = K) : SlR X (rSlG K) := by subst hK; exact sl_list.or (sl_tupA.or sl_str)
def SlD (K : PySem.W.Frag) (x : D) (lo hi : Option Int) (z : D) : Prop := ∀ (N : Addr → Prop) (b : Nat) (H : Hp) (v : V) (Q : VK), (∀ a, N a → H a ≠ none) → Lim b H → Rp K (msk N H) v x →
  (∀ y H', Ext H H' → Lim b H' → Rp K (msk N H') y z → Q y H') → rSlG K v lo hi H Q
theorem sl_L {lo hi : Option Int} : SlD K (.lst xs) lo hi (.lst (slcD xs lo hi)) := fun N b H v Q hN l r k => by
  cases r with
  | lst h1 a1 => exact .inl ⟨_, _, rfl, SqL.of (msk_of h1).2, fun q hq => k _ _ (Ext.new hq) (l.upd fun _ z => nomatch z) (new_lst hN hq (a1.cut lo hi))⟩
theorem sl_T {lo hi : Option Int} : SlD K (.tup xs) lo hi (.tup (slcD xs lo hi)) := fun N b H v Q hN l r k => by
  cases id r with
  | @tup a vs _ h1 a1 =>
    refine .inr (.inl ⟨a, vs, rfl, sqt_unm h1, fun z => ?_, fun z q hq => k _ _ (Ext.new hq) (l.upd fun _ z => nomatch z) (new_tup hN hq (a1.cut lo hi))⟩)
    have e : slcD xs lo hi = xs := by
      rw [a1.length] at z
      unfold slcD
      rw [z.1, z.2, List.drop_zero, Nat.sub_zero, List.take_length]
    exact k _ _ (Ext.refl H) l (by rw [e]; exact r)
def EpD (G : Gx) (b b' : Nat) (to : TO) (ds : List Sd) (o : Option Int) : Prop := ∀ gs M H σ, G.st gs M b H σ ds → ∀ Q : Option Int → Hp → Prop, (∀ H', Ext H H' → Lim b' H' → Q o H') → to σ H Q
theorem ep_none : EpD G b b tNoPart ds none := fun gs M H σ S Q k => k H (Ext.refl H) S.lim
theorem ep_some (h : EvD G false b b' te ds (.int i)) : EpD G b b' (tPart te) ds (some i) := fun gs M H σ S Q k => h gs M H σ S _ fun v d H' r e l rp => by
  subst r
  cases rp
  exact ⟨i, rfl, k H' e l⟩
theorem ev_slice {tl th : TO} {lo hi : Option Int} (h : EvD G p b b1 te ds x) (hl : EpD G b1 b2 tl ds lo) (hh : EpD G b2 b3 th ds hi) (hs : SlD G.K x lo hi z) : EvD G p b b3 (tSl (rSlG G.K) te tl th) ds z := fun gs M H σ S Q k =>
  h gs M H σ S _ fun v d H1 r e1 l1 rp => hl gs M H1 σ (S.step e1 l1) _ fun H2 e2 l2 => hh gs M H2 σ ((S.step e1 l1).step e2 l2) _ fun H3 e3 l3 => by
    subst r
    have S3 := ((S.step e1 l1).step e2 l2).step e3 l3
    exact hs _ b3 H3 v Q (S3.mm p) l3 ((rp.mono (msk_mono e2.toKp)).mono (msk_mono e3.toKp)) fun y H4 e4 l4 rp4 => k y _ H4 rfl (((e1.trans e2).trans e3).trans e4) l4 rp4

/-! ### sums, all, any, len -/
def rSumT (K : PySem.W.Frag) : List V → Hp → VK → Prop := fun vs H Q => ∃ (a : Addr) (ns : List Int), vs = [V.ref a] ∧ SqT K H a (ns.map V.int) ∧ Q (.int ns.sum) H
theorem cr_sumT {X : Cx} (hc : X.calm = true) : CallR X (.builtin "sum") (rSumT X.K) := by
  intro pins s σ H vs us Q I r h
  obtain ⟨a, ns, rfl, hs, q⟩ := h
  obtain ⟨its, rv, hl, _⟩ := I.tuple hs
  rw [Vals.ref1 r]
  obtain ⟨ys, e⟩ := rv.ints.allInts.items
  have hn : numsOf (intItems ys).toList = ns := by rw [← e]; exact rv.ints.numsOf
  rw [nums_intItems] at hn
  rw [e] at hl
  refine PySem.W.ktm_sumG (I.ok.hd hc) hl fun h' tk t' hk => ?_
  rw [preSum_eq, List.take_of_length_le (by simp), hn]
  exact ⟨.int _, H, I.kept hk, ⟨_, rfl⟩, q⟩
def rSumA (K : PySem.W.Frag) : List V → Hp → VK → Prop := fun vs H Q => rSum K vs H Q ∨ rSumT K vs H Q
theorem g_sum {X : Cx} (hK : X.K = K) (hc : X.calm = true) : CallR X (.builtin "sum") (rSumA K) := by subst hK; exact (cr_sum hc).or (cr_sumT hc)
theorem c_sumL {ns : List Int} (e : xs = ns.map D.int) : ClD K (rSumA K) [.lst xs] (.int ns.sum) := fun N b H vs Q hN l r k => by
  subst e
  cases r with
  | cons rp r2 =>
    cases r2
    cases rp with
    | lst hs ha =>
      have e := RpA.ints ha
      subst e
      exact .inl ⟨_, ns, rfl, SqL.of (msk_of hs).2, k _ _ _ rfl (Ext.refl H) l (.int _)⟩
theorem c_sumT {ns : List Int} (e : xs = ns.map D.int) : ClD K (rSumA K) [.tup xs] (.int ns.sum) := fun N b H vs Q hN l r k => by
  subst e
  cases r with
  | cons rp r2 =>
    cases r2
    cases rp with
    | tup hs ha =>
      have e := RpA.ints ha
      subst e
      exact .inr ⟨_, ns, rfl, sqt_unm hs, k _ _ _ rfl (Ext.refl H) l (.int _)⟩
theorem g_all {X : Cx} (hK : X.K = K) (hc : X.calm = true) : CallR X (.builtin "all") (rAll K) := by subst hK; exact cr_all hc
theorem g_any {X : Cx} (hK : X.K = K) (hc : X.calm = true) : CallR X (.builtin "any") (rAny K) := by subst hK; exact cr_any hc
theorem c_all {bs : List Bool} (e : xs = bs.map D.bl) : ClD K (rAll K) [.lst xs] (.bl (bs.all id)) := fun N b H vs Q hN l r k => by
  subst e
  cases r with
  | cons rp r2 =>
    cases r2
    cases rp with
    | lst hs ha =>
      have e := RpA.bools ha
      subst e
      exact ⟨_, bs, rfl, SqL.of (msk_of hs).2, k _ _ _ rfl (Ext.refl H) l (.bl _)⟩
theorem c_any {bs : List Bool} (e : xs = bs.map D.bl) : ClD K (rAny K) [.lst xs] (.bl (bs.any id)) := fun N b H vs Q hN l r k => by
  subst e
  cases r with
  | cons rp r2 =>
    cases r2
    cases rp with
    | lst hs ha =>
      have e := RpA.bools ha
      subst e
      exact ⟨_, bs, rfl, SqL.of (msk_of hs).2, k _ _ _ rfl (Ext.refl H) l (.bl _)⟩

/-! ### kinds -/
/-- the name of a value's class, built-in -/
def D.kind : D → Option String
  | .non => some "NoneType"
  | .bl _ => some "bool"
  | .int _ => some "int"
  | .str _ => some "str"
  | .lst _ => some "list"
  | .tup _ => some "tuple"
  | .dct _ => some "dict"
  | .dtt _ => some "dict"
  | .scr _ => some "list"
  | _ => none
theorem Rp.tyX {H : Hp} {v : V} {s : String} (r : Rp K H v d) (h : d.kind = some s) : TyX K H v (.type s) := by
  cases r with
  | non => cases h; exact .base .non
  | bl b => cases h; exact .base (.bl b)
  | int b => cases h; exact .base (.int b)
  | str b => cases h; exact .base (.str b)
  | lst ha r => cases h; exact .base (.lst ha)
  | scr ha =>
    cases h
    rcases ha with ⟨o, ha⟩ | ⟨o, its, n, ha, hc, _⟩
    · exact .base (.frz ha)
    · exact .kList ha hc
  | tup ha r =>
    cases h
    rcases ha with (ha | ⟨o, ha⟩) | ⟨o, its, n, ha, hc, _⟩
    · exact .base (.tup ha)
    · exact .fTuple ha
    · exact .kTuple ha hc
  | dct ha r => cases h; exact ha.elim (fun h => .base (.dK h)) fun ⟨_, h⟩ => .fDict h
  | dtt ha r => cases h; exact .base (.dT ha)
  | _ => cases h
theorem g_isi {X : Cx} (hK : X.K = K) : CallR X (.builtin "isinstance") (rIsi K) := by subst hK; exact call_isi
theorem c_isi {s u : String} {r : Bool} (h : d.kind = some s) (hk : kitB s u = some r) : ClD K (rIsi K) [d, .ty u] (.bl r) := fun N b H vs Q hN l rr k => by
  cases rr with
  | cons r1 r2 =>
    cases r2 with
    | cons r2 r3 =>
      cases r3
      cases r2
      exact ⟨_, _, _, _, r, rfl, .ty u, (r1.mono msk_all).tyX h, kit_ty hk, k _ _ _ rfl (Ext.refl H) l (.bl _)⟩
/-- isinstance(e, (T, U)) -/
theorem g_isiT {X : Cx} (hK : X.K = K) : CallR X (.builtin "isinstance") (rIsiT K) := by subst hK; exact call_isiT
theorem ev_isi2 {s u u2 : String} {r r2 : Bool} (h : EvD G false b b' te ds d) (hd : d.kind = some s) (h1 : kitB s u = some r) (h2 : kitB s u2 = some r2) : EvD G p b b' (tCB (rIsiT G.K) (tCons te (tCons (tTup (tCons (tC (.ty u)) (tCons (tC (.ty u2)) tNil))) tNil))) ds (.bl (r || r2)) := fun gs M H σ S Q k =>
  h gs M H σ S _ fun v d' H1 e e1 l1 rp => by
    subst e
    refine ⟨(by show 2 ≤ sizeLine; rw [sizeLine_eq]; decide), fun a ha => ⟨v, a, [.ty u, .ty u2], _, [.type u, .type u2], r || r2, rfl, upd_same, .cons (.ty u) (.cons (.ty u2) .nil), ((rp.mono msk_all).mono (Ext.new ha).toKp).tyX hd, kitAny_cons (kit_ty h1) (fun e => kitAny_cons (kit_ty h2) (fun e2 => by rw [e, e2]; exact kitAny_nil) fun e2 => by rw [e2, Bool.or_true]) (fun e => by rw [e, Bool.true_or]), ?_⟩⟩
    exact k _ _ _ rfl (e1.trans (Ext.new ha)) (l1.upd fun _ z => nomatch z) (.bl _)
/-- int(..) -/
def rIntI : List V → Hp → VK → Prop := fun xs H Q => (∃ i, xs = [.int i] ∧ Q (.int i) H) ∨ ∃ k, xs = [.bl k] ∧ Q (.int (if k then 1 else 0)) H
theorem g_int {X : Cx} : CallR X (.type "int") rIntI := call_int1
theorem c_intI : ClD K rIntI [.int i] (.int i) := fun N b H vs Q hN l r k => by
  cases r with
  | cons r1 r => cases r; cases r1; exact .inl ⟨i, rfl, k _ _ _ rfl (Ext.refl H) l (.int _)⟩
theorem c_intB {c : Bool} : ClD K rIntI [.bl c] (.int (if c then 1 else 0)) := fun N b H vs Q hN l r k => by
  cases r with
  | cons r1 r => cases r; cases r1; exact .inr ⟨c, rfl, k _ _ _ rfl (Ext.refl H) l (.int _)⟩
/-- abs(..) -/
def rAbsI : List V → Hp → VK → Prop := fun xs H Q => ∃ i, xs = [.int i] ∧ Q (.int (if i < 0 then -i else i)) H
theorem g_abs {X : Cx} : CallR X (.builtin "abs") rAbsI := call_abs
end
/-! ### list(range(..)) -/
section
variable {G : Gx} {p : Bool} {b b' b1 b2 b3 : Nat} {te ta tb : TE} {ds : List Sd} {i j : Int}
theorem rgV_D {K : PySem.W.Frag} {H : Hp} (i j : Int) : RpA K H (rgV i j) ((List.range (j - i).toNat).map fun k => D.int (i + (k : Nat))) := by
  unfold rgV
  induction List.range (j - i).toNat with
  | nil => exact .nil
  | cons x xs ih => exact .cons (.int _) ih
theorem eo_rg1 (h : EvD G false b b' ta ds (.int i)) (h0 : -(2 ^ 62) ≤ i ∧ i ≤ 100000) : EoD G b b' (tLstRg (tRg1 ta)) ds ((List.range i.toNat).map fun k => D.int (k : Nat)) := fun gs M H σ S Q k =>
  h gs M H σ S _ fun v d H1 r e1 l1 rp => by
    subst r
    cases rp
    refine ⟨i, rfl, ⟨by omega, by omega, h0.1, by omega, by omega⟩, fun q hq => ?_⟩
    refine k q _ _ _ ?_ (e1.trans (Ext.new hq)) (l1.upd fun _ z => nomatch z) (e1.free hq) upd_same (eo_new (H' := H1) hq (rgV_D 0 i))
    rw [Int.sub_zero]
    exact List.map_congr_left fun k _ => by rw [Int.zero_add]
theorem eo_rg2 (h : EvD G false b b1 ta ds (.int i)) (h2 : EvD G false b1 b' tb ds (.int j)) (h0 : -(2 ^ 62) ≤ i ∧ i < 2 ^ 62 ∧ -(2 ^ 62) ≤ j ∧ j < 2 ^ 62 ∧ (j - i).toNat ≤ 100000) : EoD G b b' (tLstRg (tRg2 ta tb)) ds ((List.range (j - i).toNat).map fun k => D.int (i + (k : Nat))) := fun gs M H σ S Q k =>
  h gs M H σ S _ fun v d H1 r e1 l1 rp => h2 gs M H1 σ (S.step e1 l1) _ fun u d2 H2 r2 e2 l2 rp2 => by
    subst r r2
    cases rp
    cases rp2
    refine ⟨i, j, rfl, rfl, ⟨h0.1, h0.2.1, h0.2.2.1, h0.2.2.2.1, by omega⟩, fun q hq => ?_⟩
    exact k q _ _ _ rfl ((e1.trans e2).trans (Ext.new hq)) (l2.upd fun _ z => nomatch z) ((e1.trans e2).free hq) upd_same (eo_new (H' := H2) hq (rgV_D i j))
end
end Sh

/-! Sh13: a = b = e, x += e, pop. -/
namespace Sh
open PySem PySem.Spec PySem.Calls PyProof.Rows L2
section
variable {G : Gx} {p : Bool} {b b' b1 b2 b3 : Nat} {te ta tb : TE} {t tk : TA} {ds : List Sd} {d x y z : D} {xs ys : List D} {i j : Nat} {E : DE}
theorem w_asg2 (h : EvD G true b b' te ds d) (k : E.nx ((ds.set i (.dat d)).set j (.dat d)) b') : Wt G b (tAsg2 te (gName i) (gName j)) ds E := fun gs M H σ S Dn w =>
  h gs M H σ S _ fun v d' H' r e l rp => by
    subst r
    exact w.nx M b' H' _ _ (((S.step e l).set rp).set rp) k
/-- name op= e, numbers -/
theorem w_aug {f : Int → Int → Int} {m n : Int} (hi : ds[i]? = some (.dat (.int m))) (h : EvD G false b b' te ds (.int n)) (k : E.nx (ds.set i (.dat (.int (f m n)))) b') : Wt G b (tAug i te (ipI f)) ds E := fun gs M H σ S Dn w => by
  obtain ⟨v, e, r⟩ := S.var hi
  cases r
  refine ⟨_, e, h gs M H σ S _ fun u d' H' r e l rp => ?_⟩
  subst r
  cases rp
  exact ⟨m, n, rfl, rfl, w.nx M b' H' _ _ ((S.step e l).set (.int _)) k⟩
theorem ws_aug {f : Int → Int → Int} {m : Int} {R : Int → Prop} (hi : ds[i]? = some (.dat (.int m))) (h : EvS G false b b' te ds (fun d => ∃ n, d = .int n ∧ R n)) (k : ∀ n, R n → E.nx (ds.set i (.dat (.int (f m n)))) b') : Wt G b (tAug i te (ipI f)) ds E := fun gs M H σ S Dn w => by
  obtain ⟨v, e, r⟩ := S.var hi
  cases r
  refine ⟨_, e, h gs M H σ S _ fun u d' H' r e l rp => ?_⟩
  obtain ⟨n, rfl, q⟩ := r
  cases rp
  exact ⟨m, n, rfl, rfl, w.nx M b' H' _ _ ((S.step e l).set (.int _)) (k n q)⟩
theorem w_par {d1 d2 : D} (h : EaD G true b b' t ds [d1, d2]) (k : E.nx ((ds.set i (.dat d1)).set j (.dat d2)) b') : Wt G b (tPar i j t) ds E := fun gs M H σ S Dn w =>
  h gs M H σ S _ fun vs es H' r e l rp => by
    subst r
    cases rp with
    | cons r1 r2 => cases r2 with
      | cons r2 r3 =>
        cases r3
        exact ⟨_, _, rfl, w.nx M b' H' _ _ (((S.step e l).set r1).set r2) k⟩
theorem ev_ty {n : String} : EvD G p b b (tC (.ty n)) ds (.ty n) := fun gs M H σ S Q k => k _ _ H rfl (Ext.refl H) S.lim (.ty n)
end
theorem gi_add {X : Cx} : PIp X .Add (ipI fun i j => i + j) := ip_add
theorem gi_sub {X : Cx} : PIp X .Sub (ipI fun i j => i - j) := ip_sub
theorem g_append {X : Cx} : MtR X "list.append" rAppend := mt_append
theorem g_popAt {X : Cx} : MtR X "list.pop" rPopAt := mt_popAt
end Sh
namespace Sh
open PySem PySem.Spec PySem.Calls PyProof.Rows L2
theorem EvD.wk {G : Gx} {p : Bool} {b b' : Nat} {te : TE} {ds : List Sd} {d : D} (h : EvD G true b b' te ds d) : EvD G p b b' te ds d := EvS.wk h
theorem EvA.imp {G : Gx} {p : Bool} {b b' : Nat} {t : TA} {ds : List Sd} {R R' : List D → Prop} (h : EvA G p b b' t ds R) (i : ∀ es, R es → R' es) : EvA G p b b' t ds R' := fun gs M H σ S Q k => h gs M H σ S Q fun vs es H' r => k vs es H' (i es r)
end Sh
namespace Sh
open PySem PySem.Spec PySem.Calls PyProof.Rows L2
theorem kb_NoneType_bool : kitB "NoneType" "bool" = some false := by decide +kernel
theorem kb_NoneType_int : kitB "NoneType" "int" = some false := by decide +kernel
theorem kb_NoneType_str : kitB "NoneType" "str" = some false := by decide +kernel
theorem kb_NoneType_list : kitB "NoneType" "list" = some false := by decide +kernel
theorem kb_NoneType_tuple : kitB "NoneType" "tuple" = some false := by decide +kernel
theorem kb_NoneType_dict : kitB "NoneType" "dict" = some false := by decide +kernel
theorem kb_bool_bool : kitB "bool" "bool" = some true := by decide +kernel
theorem kb_bool_int : kitB "bool" "int" = some true := by decide +kernel
theorem kb_bool_str : kitB "bool" "str" = some false := by decide +kernel
theorem kb_bool_list : kitB "bool" "list" = some false := by decide +kernel
theorem kb_bool_tuple : kitB "bool" "tuple" = some false := by decide +kernel
theorem kb_bool_dict : kitB "bool" "dict" = some false := by decide +kernel
theorem kb_int_bool : kitB "int" "bool" = some false := by decide +kernel
theorem kb_int_int : kitB "int" "int" = some true := by decide +kernel
theorem kb_int_str : kitB "int" "str" = some false := by decide +kernel
theorem kb_int_list : kitB "int" "list" = some false := by decide +kernel
theorem kb_int_tuple : kitB "int" "tuple" = some false := by decide +kernel
theorem kb_int_dict : kitB "int" "dict" = some false := by decide +kernel
theorem kb_str_bool : kitB "str" "bool" = some false := by decide +kernel
theorem kb_str_int : kitB "str" "int" = some false := by decide +kernel
theorem kb_str_str : kitB "str" "str" = some true := by decide +kernel
theorem kb_str_list : kitB "str" "list" = some false := by decide +kernel
theorem kb_str_tuple : kitB "str" "tuple" = some false := by decide +kernel
theorem kb_str_dict : kitB "str" "dict" = some false := by decide +kernel
theorem kb_list_bool : kitB "list" "bool" = some false := by decide +kernel
theorem kb_list_int : kitB "list" "int" = some false := by decide +kernel
theorem kb_list_str : kitB "list" "str" = some false := by decide +kernel
theorem kb_list_list : kitB "list" "list" = some true := by decide +kernel
theorem kb_list_tuple : kitB "list" "tuple" = some false := by decide +kernel
theorem kb_list_dict : kitB "list" "dict" = some false := by decide +kernel
theorem kb_tuple_bool : kitB "tuple" "bool" = some false := by decide +kernel
theorem kb_tuple_int : kitB "tuple" "int" = some false := by decide +kernel
theorem kb_tuple_str : kitB "tuple" "str" = some false := by decide +kernel
theorem kb_tuple_list : kitB "tuple" "list" = some false := by decide +kernel
theorem kb_tuple_tuple : kitB "tuple" "tuple" = some true := by decide +kernel
theorem kb_tuple_dict : kitB "tuple" "dict" = some false := by decide +kernel
theorem kb_dict_bool : kitB "dict" "bool" = some false := by decide +kernel
theorem kb_dict_int : kitB "dict" "int" = some false := by decide +kernel
theorem kb_dict_str : kitB "dict" "str" = some false := by decide +kernel
theorem kb_dict_list : kitB "dict" "list" = some false := by decide +kernel
theorem kb_dict_tuple : kitB "dict" "tuple" = some false := by decide +kernel
theorem kb_dict_dict : kitB "dict" "dict" = some true := by decide +kernel
end Sh
namespace Sh
open PySem PySem.Spec PySem.Calls PyProof.Rows L2
theorem Cal.cas {F : Fd} {es : List D} {z : D} (h : Cal F es z) : Cas F es 0 (fun d => d = z) := ⟨h.n, h.dom, by rw [h.cost]; exact Nat.le_refl _, h.res, h.exn⟩
section
variable {G : Gx} {p : Bool} {b b' b1 b2 : Nat} {ta tb tc : TE} {ds : List Sd} {F : Fd} {E : L2.St → XK} {c : Nat} {R R1 : D → Prop} {R2 : D → D → Prop} {y : D}
/-- f(e), f(e1, e2) of what is not known for certain -/
theorem evs_cl1 (h1 : EvS G p b b1 ta ds R1) (h : ∀ x, R1 x → Cas F [x] c R) (hb : c + b' ≤ b1) : EvS G p b b' (tCl 1 0 (SpD G.K F) (fun vs _ => vs) E (tCons ta tNil) tNil) ds R :=
  (evs_cl (F := F) (gD := fun es _ => es) (fs := []) (eas_cons h1 fun x _ => ea_nil) ea_nil (fun _ _ _ _ _ r _ => r) rfl fun es' ⟨x, r, e, q1, q2⟩ => by
    subst e q2
    have q := h x q1
    exact ⟨rfl, q.n, q.dom, Nat.le_trans (Nat.add_le_add_right q.cost _) hb, fun C x z => absurd z (q.exn C x)⟩).imp fun d ⟨es', ⟨x, r, e, q1, q2⟩, q⟩ => by
    subst e q2
    exact (h x q1).res d q
theorem evs_cl2 (h1 : EvS G p b b1 ta ds R1) (h2 : ∀ x, R1 x → EvD G p b1 b2 tb ds y) (h : ∀ x, R1 x → Cas F [x, y] c R) (hb : c + b' ≤ b2 := by omega) : EvS G p b b' (tCl 2 0 (SpD G.K F) (fun vs _ => vs) E (tCons ta (tCons tb tNil)) tNil) ds R :=
  (evs_cl (F := F) (gD := fun es _ => es) (fs := []) (eas_cons (R2 := fun _ r => r = [y]) h1 fun x hx => ea_cons (h2 x hx) ea_nil) ea_nil (fun _ _ _ _ _ r _ => r) rfl fun es' ⟨x, r, e, q1, q2⟩ => by
    subst e q2
    have q := h x q1
    exact ⟨rfl, q.n, q.dom, Nat.le_trans (Nat.add_le_add_right q.cost _) hb, fun C x z => absurd z (q.exn C x)⟩).imp fun d ⟨es', ⟨x, r, e, q1, q2⟩, q⟩ => by
    subst e q2
    exact (h x q1).res d q
end
end Sh

/-! Sh14: expressions that change a list of our own. -/
namespace Sh
open PySem PySem.Spec PySem.Calls PyProof.Rows L2
/-- te changes our own list at slot i0 -/
def EvX (G : Gx) (i0 : Nat) (b b' : Nat) (te : TE) (ds : List Sd) (R : D → List D → Prop) : Prop :=
  ∀ gs M H σ, G.st gs M b H σ ds → ∀ Q : VK, (∀ v d ys vs a H1, R d ys → σ[i0]? = some (some (.ref a)) → Ext H H1 → Lim b' H1 → RpA G.K (msk M H1) vs ys → Rp G.K (msk M H1) v d → Q v (upd H1 a (.lst vs))) → te σ H Q
theorem RpA.eraseIdx {K : PySem.W.Frag} {H : Hp} : ∀ {vs : List V} {ds : List D} (n : Nat), RpA K H vs ds → RpA K H (vs.eraseIdx n) (ds.eraseIdx n)
  | _, _, _, .nil => by rw [List.eraseIdx_nil, List.eraseIdx_nil]; exact .nil
  | _, _, 0, .cons _ q => q
  | _, _, n + 1, .cons p q => .cons p (RpA.eraseIdx n q)
/-- xs.pop(e), xs our own -/
theorem evx_pop {G : Gx} {i0 b b' : Nat} {ti : TE} {ds : List Sd} {xs : List D} {R1 : Nat → Prop} (hi : ds[i0]? = some (.own xs)) (h : EvS G true b b' ti ds (fun d => ∃ k : Nat, d = .int (k : Int) ∧ R1 k)) (hk : ∀ k, R1 k → k < xs.length) (hl : xs.length ≤ 100000) :
    EvX G i0 b b' (tBM G.K "list" rPopAt (tVar i0) (tCons ti tNil)) ds (fun d ys => ∃ k, R1 k ∧ xs[k]? = some d ∧ ys = xs.eraseIdx k) := fun gs M H σ S Q kk => by
  obtain ⟨a, vs, hσ, m, ha, r, n0⟩ := S.ownL hi
  refine ⟨.ref a, hσ, .inl ⟨rfl, vs, SqL.of ha⟩, ?_⟩
  refine h gs M H σ S _ fun v d H1 rd e l rp => ?_
  obtain ⟨k, rfl, r1⟩ := rd
  cases rp
  have ha' : H1 a = some (.lst vs) := e.keep _ _ ha fun _ z => nomatch z
  have hk' := hk k r1
  have len := r.length
  have hkv : k < vs.length := by omega
  have r2 := r.mono (msk_mono e.toKp)
  obtain ⟨d, hd, rd⟩ := r2.get (i := k) (List.getElem?_eq_getElem hkv)
  refine ⟨a, vs, (k : Int), k, vs[k], rfl, rfl, ha', by omega, by omega, ?_, List.getElem?_eq_getElem hkv, ?_⟩
  · unfold seqIndex?
    have e1 : (if (k : Int) < 0 then (k : Int) + (vs.length : Int) else (k : Int)) = (k : Int) := if_neg (by omega)
    show (if (decide (0 ≤ (if (k : Int) < 0 then (k : Int) + (vs.length : Int) else (k : Int))) && decide ((if (k : Int) < 0 then (k : Int) + (vs.length : Int) else (k : Int)) < (vs.length : Int))) = true then some (if (k : Int) < 0 then (k : Int) + (vs.length : Int) else (k : Int)).toNat else none) = some k
    rw [e1, decide_eq_true (by omega), decide_eq_true (by omega)]
    rfl
  · exact kk _ d _ _ a H1 ⟨k, r1, hd, rfl⟩ hσ e l (r2.eraseIdx k) rd
theorem wipe_get (σ : List (Option V)) (i : Nat) : ∀ vs : List Nat, i ∉ vs → (L2.wipe σ vs)[i]? = σ[i]?
  | [], _ => rfl
  | v :: vs, h => by
    show ((L2.wipe σ vs).set v none)[i]? = σ[i]?
    rw [List.getElem?_set_ne (fun z => h (by rw [z]; exact List.mem_cons_self)), wipe_get σ i vs fun z => h (List.mem_cons_of_mem _ z)]
/-- what a comprehension makes whose items change our own list -/
def EvXO (G : Gx) (i0 : Nat) (b b' : Nat) (te : TE) (ds : List Sd) (R : List D → List D → Prop) : Prop :=
  ∀ gs M H σ, G.st gs M b H σ ds → ∀ Q : VK, (∀ D M' vs xs ys H', R xs ys → G.st gs M' b' H' σ (ds.set i0 (.own ys)) → M' D → ¬ G.M0 D → G.H0 D = none → H' D = some (.lst vs) → RpA G.K (msk M' H') vs xs → Q (.ref D) H') → te σ H Q
theorem evx_lc {G : Gx} {i0 b b1 b' : Nat} {wi : TI} {g : TG} {te : TE} {vs : List Nat} {ds : List Sd} {n : Nat} {it : Nat → D} {ys0 : List D} (c : Nat) (P : Nat → List D → List D → Prop) (hi : EvI G b b1 wi ds n it) (hn : n ≤ 100000) (h0 : ds[i0]? = some (.own ys0)) (hv : i0 ∉ vs) (hp : P 0 [] ys0)
    (hs : ∀ i acc ys, i < n → P i acc ys → ∃ ds'', TgR G.K vs g (it i) (wipeD (ds.set i0 (.own ys)) vs) ds'' ∧ ∀ b0, EvX G i0 (b0 + c) b0 te ds'' (fun d ys' => P (i + 1) (acc ++ [d]) ys'))
    (hm : ∀ i acc ys, P i acc ys → acc.length ≤ i) (hb : b' + n * c ≤ b1) : EvXO G i0 b b' (tLc wi g tYes te vs) ds (P n) := fun gs M H σ S Q k =>
  hi gs M H σ S _ fun J gs' H1 e l hg ok => fun D hD => by
    have S1 : Stt G.K G.H0 G.M0 (gs' ++ gs) M b1 H1 σ ds := (S.step e l).ghosts hg
    have nMD : ¬ M D := fun z => S1.liv D z hD
    obtain ⟨a0, vs0, hσ0, m0, ha0, r0, n00⟩ := S1.ownL h0
    have nDa : a0 ≠ D := ne_of_none ha0 hD
    have st : ∀ b2 Hx vsy ys, Ext H1 Hx → Lim b2 Hx → Hx D ≠ none → RpA G.K (msk (fun a => M a ∨ a = D) Hx) vsy ys → Stt G.K G.H0 G.M0 (gs' ++ gs) (fun a => M a ∨ a = D) b2 (upd Hx a0 (.lst vsy)) σ (ds.set i0 (.own ys)) := fun b2 Hx vsy ys e2 l2 hD2 ry => (S1.grow hD e2 l2 hD2).chg h0 hσ0 ry
    refine ⟨fun i m H => m = n - i ∧ i ≤ n ∧ ∃ acc es Hx vsy ys, H = upd Hx a0 (.lst vsy) ∧ Ext H1 Hx ∧ Lim (b' + (n - i) * c) Hx ∧ Hx D = some (.lst acc) ∧ RpA G.K (msk (fun a => M a ∨ a = D) Hx) acc es ∧ RpA G.K (msk (fun a => M a ∨ a = D) Hx) vsy ys ∧ P i es ys, ⟨n, by omega, Nat.zero_le _, [], [], upd H1 D (.lst []), vs0, ys0, ?_, Ext.new hD, (S1.lim.mono hb).upd (fun _ z => nomatch z), upd_same, .nil, eo_new (H' := H1) hD r0 |>.mono (msk_mono (Ext.refl _).toKp) |> fun q => ?_, hp⟩, ?_⟩
    · funext x
      by_cases hx : x = a0
      · rw [hx, upd_same, upd_ne nDa, ha0]
      · rw [upd_ne hx]
    · refine r0.mono (Kp.sub fun c o h => ?_)
      obtain ⟨h1, h2⟩ := msk_of h
      have nc : c ≠ D := ne_of_none h2 hD
      rw [msk_no fun z => z.elim h1 nc, upd_ne nc]
      exact h2
    rintro i m H2 ⟨rfl, hin, acc, es, Hx, vsy, ys, rfl, e2, l2, hacc, racc, ry, p2⟩
    have S2 := st _ Hx vsy ys e2 l2 (by rw [hacc]; exact fun z => nomatch z) ry
    have hl2 : Lim (b' + (n - i) * c) (upd Hx a0 (.lst vsy)) := l2.upd fun _ z => nomatch z
    have hacc2 : (upd Hx a0 (.lst vsy)) D = some (.lst acc) := by rw [upd_ne (Ne.symm nDa)]; exact hacc
    have ma : (fun a => M a ∨ a = D) a0 := .inl m0
    have mku : msk (fun a => M a ∨ a = D) (upd Hx a0 (.lst vsy)) = msk (fun a => M a ∨ a = D) Hx := msk_upd ma
    by_cases hlt : i < n
    · refine .inr ⟨ok.go i _ _ S2.gh' hlt, fun H => ∃ acc es Hx vsy ys, H = upd Hx a0 (.lst vsy) ∧ Ext H1 Hx ∧ Lim (b' + (n - (i + 1)) * c) Hx ∧ Hx D = some (.lst acc) ∧ RpA G.K (msk (fun a => M a ∨ a = D) Hx) acc es ∧ RpA G.K (msk (fun a => M a ∨ a = D) Hx) vsy ys ∧ P (i + 1) es ys, fun H' z => ⟨n - (i + 1), by omega, rfl, hlt, z⟩, fun x H3 y => ?_⟩
      obtain ⟨x1, x2, x3⟩ := ok.yld i _ _ S2.gh' hlt x H3 y
      obtain ⟨ds'', t1, t2⟩ := hs i es ys hlt p2
      have ec : b' + (n - i) * c = (b' + (n - (i + 1)) * c) + c := by
        have e3 : n - i = (n - (i + 1)) + 1 := by omega
        rw [e3, Nat.add_mul, Nat.one_mul, Nat.add_assoc]
      have S3 := (S2.step x1 (x2 _ hl2)).wipe vs
      rw [ec] at S3
      refine t1 _ _ _ _ _ H3 _ x S3 x3 _ fun σ4 S4 ew => ⟨?_, ?_⟩
      · rw [ew]
        have ww : ∀ ws : List Nat, (∀ v ∈ ws, v ∈ vs) → L2.wipe (L2.wipe σ ws) vs = L2.wipe σ vs := fun ws => by
          induction ws with
          | nil => intro _; rfl
          | cons v ws ih =>
            intro hv
            show L2.wipe ((L2.wipe σ ws).set v none) vs = L2.wipe σ vs
            rw [wipe_in _ _ _ _ (hv v List.mem_cons_self), ih fun u hu => hv u (List.mem_cons_of_mem _ hu)]
        exact ww vs fun _ h => h
      · show te σ4 H3 _
        refine t2 (b' + (n - (i + 1)) * c) _ _ H3 σ4 S4 _ fun v d ys' vs' a H4 rd hσ4 e4 l4 ry' rp => ?_
        have ea : a = a0 := by
          have q1 := wipe_get σ4 i0 vs hv
          have q2 := wipe_get (L2.wipe σ vs) i0 vs hv
          rw [ew, q2, wipe_get σ i0 vs hv, hσ0, hσ4] at q1
          injection q1 with q1
          injection q1 with q1
          injection q1 with q1
          exact q1.symm
        subst ea
        have hacc4 : H4 D = some (.lst acc) := e4.keep _ _ (x1.keep _ _ hacc2 fun _ z => nomatch z) fun _ z => nomatch z
        have hacc5 : (upd H4 a (.lst vs')) D = some (.lst acc) := by rw [upd_ne (Ne.symm nDa)]; exact hacc4
        have e24 := x1.trans e4
        have len : acc.length ≤ n := by
          rw [racc.length]
          exact Nat.le_trans (hm i es ys p2) hin
        -- all but a and D as in H1
        let Hy := upd (upd H4 a (.lst vs0)) D (.lst (acc ++ [v]))
        have kp : Ext H1 Hy := ⟨⟨fun c o hc no => by
            have nc : c ≠ D := ne_of_none hc hD
            show (upd (upd H4 a (.lst vs0)) D (.lst (acc ++ [v]))) c = some o
            rw [upd_ne nc]
            by_cases hca : c = a
            · rw [hca, upd_same, ← hc, hca, ha0]
            · rw [upd_ne hca]
              exact e24.keep c o (by rw [upd_ne hca]; exact e2.keep c o hc no) no, fun c j hc => by
            have nc : c ≠ D := ne_of_none hc hD
            have hca : c ≠ a := fun z => by rw [z, ha0] at hc; unfold PurseO at hc; cases hc
            obtain ⟨j1, hj1⟩ := e2.pz c j hc
            obtain ⟨j2, hj2⟩ := e24.pz c j1 (by rw [upd_ne hca]; exact hj1)
            exact ⟨j2, by show (upd (upd H4 a (.lst vs0)) D (.lst (acc ++ [v]))) c = _; rw [upd_ne nc, upd_ne hca]; exact hj2⟩⟩, fun c hc => by
            show (upd (upd H4 a (.lst vs0)) D (.lst (acc ++ [v]))) c ≠ none
            by_cases nc : c = D
            · rw [nc, upd_same]; exact fun z => nomatch z
            · rw [upd_ne nc]
              by_cases hca : c = a
              · rw [hca, upd_same]; exact fun z => nomatch z
              · rw [upd_ne hca]
                exact e24.dom c (by rw [upd_ne hca]; exact e2.dom c hc)⟩
        have mk : ∀ f : Addr → Prop, (∀ c, (fun a => M a ∨ a = D) c → f c) → msk (fun a => M a ∨ a = D) Hy = msk (fun a => M a ∨ a = D) H4 := fun _ _ => by
          show msk _ (upd (upd H4 a (.lst vs0)) D _) = _
          rw [msk_upd (.inr rfl), msk_upd ma]
        have mk := mk (fun _ => True) fun _ _ => trivial
        have l5 : Lim (b' + (n - (i + 1)) * c) (upd H4 a (.lst vs0)) := l4.upd fun _ z => nomatch z
        have l6 : Lim (b' + (n - (i + 1)) * c) Hy := l5.upd (a := D) (o := .lst (acc ++ [v])) fun _ z => nomatch z
        refine ⟨acc, hacc5, Nat.lt_of_le_of_lt (Nat.le_trans len hn) (by decide), acc ++ [v], es ++ [d], Hy, vs', ys', ?_, kp, l6, upd_same, ?_, ?_, rd⟩
        · funext c
          show (upd (upd H4 a (.lst vs')) D (.lst (acc ++ [v]))) c = (upd (upd (upd H4 a (.lst vs0)) D (.lst (acc ++ [v]))) a (.lst vs')) c
          by_cases hca : c = a
          · rw [hca, upd_same, upd_ne nDa, upd_same]
          · rw [upd_ne hca]
            by_cases nc : c = D
            · rw [nc, upd_same, upd_same]
            · rw [upd_ne nc, upd_ne nc, upd_ne hca, upd_ne hca]
        · rw [mk]
          refine RpA.append ?_ (.cons rp .nil)
          have q := racc
          rw [← mku] at q
          exact q.mono (msk_mono e24.toKp)
        · rw [mk]
          exact ry'
    · have en : i = n := by omega
      subst en
      refine .inl ⟨ok.stop _ _ S2.gh', ?_⟩
      have S2' : Stt G.K G.H0 G.M0 gs (fun a => M a ∨ a = D) b' (upd Hx a0 (.lst vsy)) σ (ds.set i0 (.own ys)) := S2.unghosts.weak (Nat.le_add_right _ _)
      exact k D _ acc es ys _ p2 S2' (.inr rfl) (fun z => nMD (S1.m0 D z)) (S1.ext.free hD) hacc2 (by rw [mku]; exact racc)
/-- return [..] -/
theorem ws_retX {G : Gx} {i0 b b' : Nat} {te : TE} {ds : List Sd} {E : DE} {R : List D → List D → Prop} (h : EvXO G i0 b b' te ds R) (k : ∀ xs ys, R xs ys → E.rt (.lst xs) (ds.set i0 (.own ys)) b') (ho : E.ro2 = 0 := by rfl) : Wt G b (tRet te) ds E := fun gs M H σ S Dn w =>
  h gs M H σ S _ fun D M' vs xs ys H' r S' m n0 hD0 hD rr => by
    have rm : RpA G.K (msk (fun c => G.M0 c ∨ c = D) H') vs xs := rr.mono (msk_sub fun c hc => hc.elim (S'.m0 c) fun z => by rw [z]; exact m)
    exact w.rt M' b' H' σ _ _ _ S' (k xs ys r) (.lst (by rw [msk_no n0]; exact hD) (rm.mono (msk_sub fun c hc => .inl hc))) fun _ => (by rw [ho]; exact ⟨D, vs, xs, rfl, rfl, hD0, hD, rm⟩)
/-- xs[k] = e, xs our own, e not known for certain -/
theorem ws_setO {G : Gx} {b b1 b2 : Nat} {te ti : TE} {ds : List Sd} {R : D → Prop} {E : DE} {i : Nat} {k : Int} {xs : List D} (hi : ds[i]? = some (.own xs)) (h : EvS G true b b1 te ds R) (hk : EvD G true b1 b2 ti ds (.int k)) (h0 : 0 ≤ k) (h1 : k < xs.length) (kk : ∀ d, R d → E.nx (ds.set i (.own (xs.set k.toNat d))) b2) :
    Wt G b (tAsg te (gSub (tVar i) ti rSetA)) ds E := fun gs M H σ S Dn w => by
  refine h gs M H σ S _ fun v d' H1 r e1 l1 rp => ?_
  have S1 := S.step e1 l1
  obtain ⟨a, vs, hσ, m, ha, rr, n0⟩ := S1.ownL hi
  refine ⟨.ref a, hσ, ?_⟩
  refine hk gs M H1 σ S1 _ fun v2 d2 H2 r2 e2 l2 rp2 => ?_
  subst r2
  cases rp2
  have S2 := S1.step e2 l2
  have ha2 : H2 a = some (.lst vs) := e2.keep _ _ ha fun _ z => nomatch z
  have hl : k < vs.length := by rw [rr.length]; exact h1
  exact .inl ⟨a, vs, k, k.toNat, rfl, rfl, ha2, ixN_nn h0 hl, w.nx M b2 _ σ _ (S2.chg hi hσ (RpA.set (rp.mono (msk_mono e2.toKp)) _ (rr.mono (msk_mono e2.toKp)))) (kk d' r)⟩
/-- f(e, ..), e not known for certain, the rest is -/
theorem evs_clH {G : Gx} {p : Bool} {b b' b1 b2 n c : Nat} {ta : TE} {t : TA} {ds : List Sd} {F : Fd} {E : L2.St → XK} {R R1 : D → Prop} {ys : List D} (h1 : EvS G p b b1 ta ds R1) (h2 : ∀ x, R1 x → EaD G p b1 b2 t ds ys) (h : ∀ x, R1 x → Cas F (x :: ys) c R) (hn : ys.length + 1 = n) (hb : c + b' ≤ b2) :
    EvS G p b b' (tCl n 0 (SpD G.K F) (fun vs _ => vs) E (tCons ta t) tNil) ds R :=
  (evs_cl (F := F) (gD := fun es _ => es) (fs := []) (eas_cons (R2 := fun _ r => r = ys) h1 h2) ea_nil (fun _ _ _ _ _ r _ => r) rfl fun es' ⟨x, r, e, q1, q2⟩ => by
    subst e q2
    have q := h x q1
    exact ⟨hn, q.n, q.dom, Nat.le_trans (Nat.add_le_add_right q.cost _) hb, fun C x z => absurd z (q.exn C x)⟩).imp fun d ⟨es', ⟨x, r, e, q1, q2⟩, q⟩ => by
    subst e q2
    exact (h x q1).res d q
end Sh
namespace Sh
open PySem PySem.Spec PySem.Calls PyProof.Rows L2
theorem EvX.imp {G : Gx} {i0 b b' : Nat} {te : TE} {ds : List Sd} {R R' : D → List D → Prop} (h : EvX G i0 b b' te ds R) (i : ∀ d ys, R d ys → R' d ys) : EvX G i0 b b' te ds R' := fun gs M H σ S Q k => h gs M H σ S Q fun v d ys vs a H1 r => k v d ys vs a H1 (i d ys r)
end Sh
namespace Sh
open PySem PySem.Spec PySem.Calls PyProof.Rows L2
theorem g_bm {X : Cx} {K : PySem.W.Frag} {o e : Expr} {es : List Expr} {to : TE} {t : TA} {name : Str} {apos cpos : Pos} {T id : String} {r : V → List V → Hp → VK → Prop} (hK : X.K = K) (pa : PlainAttrs T) (slot : Slot T name id) (hty : typeOf (.builtin id) = pure (.type "method_descriptor")) (hm : MtR X id r) (ho : PE X o to) (ha : PA X (e :: es) t)
    (hbase : attributeBase o name X.env (eval o X.env) = eval o X.env := by rfl)
    (hfew : ((backTo cpos (starEach (e :: es) X.env)).all (fun x => !x.1) && (backToKw cpos (keywordEach [] X.env)).all (fun x => x.1.isSome)
      && decide ((e :: es).length + ([] : List Keyword).length + (if ([] : List Keyword).isEmpty then 0 else 1) < 30)) = true := by rfl)
    (hline : (apos.endLine == cpos.line) = true := by rfl) (hs : starEach (e :: es) X.env = (false, eval e X.env) :: starEach es X.env := by rfl) (hplain : (backTo cpos (starEach es X.env)).any (·.1) = false := by rfl) :
    PE X (.Call (.Attribute o name apos) (e :: es) [] cpos) (tBM K T r to t) := by
  subst hK
  exact pe_bm pa slot hty hm ho ha hbase hfew hline hs hplain
end Sh
namespace Sh
open PySem PySem.Spec PySem.Calls PyProof.Rows L2
theorem Wt.less {G : Gx} {b b' : Nat} {t : TS} {ds : List Sd} {E : DE} (h : Wt G b' t ds E) (hb : b' ≤ b) : Wt G b t ds E := fun gs M H σ S Dn w => h gs M H σ (S.weak hb) Dn w
/-- f(e1, e2, e3), e3 not known for certain -/
theorem evs_cl3 {G : Gx} {p : Bool} {b b' b1 b2 b3 c : Nat} {ta tb tc : TE} {ds : List Sd} {F : Fd} {E : L2.St → XK} {R R3 : D → Prop} {x y : D} (h1 : EvD G p b b1 ta ds x) (h2 : EvD G p b1 b2 tb ds y) (h3 : EvS G p b2 b3 tc ds R3) (h : ∀ z, R3 z → Cas F [x, y, z] c R) (hb : c + b' ≤ b3) :
    EvS G p b b' (tCl 3 0 (SpD G.K F) (fun vs _ => vs) E (tCons ta (tCons tb (tCons tc tNil))) tNil) ds R :=
  (evs_cl (F := F) (gD := fun es _ => es) (fs := []) (eas_cons (R2 := fun _ r => ∃ z, r = [y, z] ∧ R3 z) h1 fun _ _ => EvA.imp (eas_cons (R2 := fun _ r => ∃ z, r = [z] ∧ R3 z) h2 fun _ _ => EvA.imp (eas_cons (R2 := fun _ r => r = []) h3 fun _ _ => ea_nil) fun es ⟨z, r, e, q1, q2⟩ => ⟨z, by rw [e, q2], q1⟩) fun es ⟨z, r, e, q1, w, q2, q3⟩ => ⟨w, by rw [e, q1, q2], q3⟩) ea_nil (fun _ _ _ _ _ r _ => r) rfl fun es' ⟨x', r, e, q1, z, q2, q3⟩ => by
    subst e q1 q2
    have q := h z q3
    exact ⟨rfl, q.n, q.dom, Nat.le_trans (Nat.add_le_add_right q.cost _) hb, fun C x z => absurd z (q.exn C x)⟩).imp fun d ⟨es', ⟨x', r, e, q1, z, q2, q3⟩, q⟩ => by
    subst e q1 q2
    exact (h z q3).res d q
theorem Cas.imp {F : Fd} {es : List D} {c : Nat} {R R' : D → Prop} (h : Cas F es c R) (i : ∀ d, R d → R' d) : Cas F es c R' := ⟨h.n, h.dom, h.cost, fun d q => i d (h.res d q), h.exn⟩
end Sh
namespace Sh
open PySem PySem.Spec PySem.Calls PyProof.Rows L2
theorem evs_clA {G : Gx} {p : Bool} {b b' b1 n c : Nat} {t : TA} {ds : List Sd} {F : Fd} {E : L2.St → XK} {R : D → Prop} {Ra : List D → Prop} (ha : EvA G p b b1 t ds Ra) (h : ∀ es, Ra es → es.length = n ∧ Cas F es c R) (hb : c + b' ≤ b1) : EvS G p b b' (tCl n 0 (SpD G.K F) (fun vs _ => vs) E t tNil) ds R :=
  (evs_cl (F := F) (gD := fun es _ => es) (fs := []) ha ea_nil (fun _ _ _ _ _ r _ => r) rfl fun es q => by
    obtain ⟨h1, h2⟩ := h es q
    exact ⟨h1, h2.n, h2.dom, Nat.le_trans (Nat.add_le_add_right h2.cost _) hb, fun C x z => absurd z (h2.exn C x)⟩).imp fun d ⟨es, q1, q2⟩ => (h es q1).2.res d q2
/-- arguments of which the last is not known for certain -/
theorem eas_one {G : Gx} {p : Bool} {b b1 : Nat} {te : TE} {ds : List Sd} {R : D → Prop} (h : EvS G p b b1 te ds R) : EvA G p b b1 (tCons te tNil) ds (fun es => ∃ z, es = [z] ∧ R z) := EvA.imp (eas_cons (R2 := fun _ r => r = []) h fun _ _ => ea_nil) fun es ⟨z, r, e, q1, q2⟩ => ⟨z, by rw [e, q2], q1⟩
theorem eas_det {G : Gx} {p : Bool} {b b1 b2 : Nat} {te : TE} {t : TA} {ds : List Sd} {x : D} {R : List D → Prop} (h : EvD G p b b1 te ds x) (h2 : EvA G p b1 b2 t ds R) : EvA G p b b2 (tCons te t) ds (fun es => ∃ r, es = x :: r ∧ R r) := EvA.imp (eas_cons (R2 := fun _ r => R r) h fun _ _ => h2) fun es ⟨z, r, e, q1, q2⟩ => ⟨r, by rw [e, q1], q2⟩
end Sh
namespace Sh
open PySem PySem.Spec PySem.Calls PyProof.Rows L2
/-- what holds behind a statement, said anew -/
theorem w_mid {G : Gx} {b : Nat} {t : TS} {ds : List Sd} {E : DE} (I : List Sd → Nat → Prop) (h : Wt G b t ds { E with nx := I }) (k : ∀ ds' b', I ds' b' → E.nx ds' b') : Wt G b t ds E := h.imp k (fun _ _ _ h => h) (fun _ _ h => h) (fun _ _ h => h) (fun h => h)
end Sh

/-! Sh15: t[::-1] of a tuple. -/
namespace Sh
open PySem PySem.Spec PySem.Calls PyProof.Rows L2
section
variable {prog : Program} {w : World} {A : Around} {E : Value → Shared → Prop} {s : Shared}
theorem revAdjust (n : Nat) : Builtin.Slice.sliceAdjust none none (-1) (n : Int) = ((n : Int) - 1, -1) := by
  unfold Builtin.Slice.sliceAdjust
  have h1 : ((-1 : Int) < 0) := by decide
  simp only [h1, if_true]
theorem revPlaces (n : Nat) : Builtin.Slice.slicePlaces ((n : Int) - 1) (-1) (-1) = n := by
  unfold Builtin.Slice.slicePlaces
  rw [if_neg (by decide)]
  split
  · have e : ((n : Int) - 1 - -1 - 1) / - -1 + 1 = (n : Int) := by
      rw [show -(-1 : Int) = 1 from rfl, Int.ediv_one]
      omega
    rw [e]
    exact Int.toNat_natCast n
  · have : n = 0 := by omega
    subst this
    rfl
theorem fm_congr {α β : Type} {f g : α → Option β} : ∀ {l : List α}, (∀ x ∈ l, f x = g x) → l.filterMap f = l.filterMap g
  | [], _ => rfl
  | x :: l, h => by
    rw [List.filterMap_cons, List.filterMap_cons, h x List.mem_cons_self, fm_congr fun y hy => h y (List.mem_cons_of_mem _ hy)]
theorem revPick (xs : List Value) : ((List.range xs.length).filterMap fun (m : Nat) => xs.toArray[(((xs.length : Int) - 1) + (m : Int) * (-1)).toNat]?).toArray = xs.reverse.toArray := by
  have e := PySem.W.krv_all xs.toArray
  have e1 : (List.range xs.length).map (fun k => xs.length - 1 - k) = (List.range xs.length).reverse := PySem.W.krv_range xs.length
  have e2 : (fun (m : Nat) => xs.toArray[(((xs.length : Int) - 1) + (m : Int) * (-1)).toNat]?) = fun m => if m < xs.length then xs.toArray[xs.length - 1 - m]? else xs.toArray[(((xs.length : Int) - 1) + (m : Int) * (-1)).toNat]? := by
    funext m
    by_cases h : m < xs.length
    · rw [if_pos h]
      congr 1
      omega
    · rw [if_neg h]
  congr 1
  rw [e2]
  have e3 : (List.range xs.length).filterMap (fun m => if m < xs.length then xs.toArray[xs.length - 1 - m]? else xs.toArray[(((xs.length : Int) - 1) + (m : Int) * (-1)).toNat]?) = (List.range xs.length).filterMap fun m => xs.toArray[xs.length - 1 - m]? := by
    refine fm_congr fun m hm => ?_
    rw [if_pos (List.mem_range.mp hm)]
  rw [e3]
  have e4 : (List.range xs.length).filterMap (fun m => xs.toArray[xs.length - 1 - m]?) = ((List.range xs.length).map (fun k => xs.length - 1 - k)).filterMap (xs.toArray[·]?) := by
    rw [List.filterMap_map]
    rfl
  rw [e4, e1, List.filterMap_reverse]
  rw [List.size_toArray] at e
  rw [e]
theorem getItem_tuple_rev {t sl : Addr} {items : List Value} {vl vu vs : Value} {Q : Value → Shared → Prop} (ht : IsTup s.heap t items.toArray) (hs : s.heap.IsSliceOf sl vl vu vs) (pl : IsPart vl none) (pu : IsPart vu none) (ps : IsPart vs (some (-1)))
    (h : Q (.ref s.heap.objs.size) { s with heap := s.heap.push { cls := .type "tuple", data := .seq items.reverse.toArray } })
    (hsz : items.length ≤ sizeLine) : wpAny (model prog w) A (getItem (.ref t) (.ref sl)) Q E s := by
  obtain ⟨os, hos, hcs, hds⟩ := id hs
  have hTs : s.TypeIs (.ref sl) "slice" := ⟨os, hos, hcs⟩
  unfold getItem
  try with_reducible refine wpAny_holding ?_
  first | refine wpAny_bind (wpAny_pure ?_) | skip
  refine wpAny_bind (wpAny_sequenceKey ht.typeIs (by decide) ?_)
  refine wpAny_bind (wpAny_callSpecial?_slot (name := Str.ofString "__getitem__") ht.typeIs PyProof.Rows.slot_tuple_getitem
    (wpAny_call_entry PyProof.Rows.slot_tuple_getitem ht.typeIs entry_tuple_getitem ?_ (args_tuple_getitem _ _)))
  show wpAny _ _ (Builtin.Tuple.tupleItemsOf (.ref t) >>= _) _ _ s
  refine wpAny_bind (tupleItemsOf_ ht ?_)
  refine wpAny_bind (wpAny_typeOf hTs ?_)
  rw [if_pos (by decide)]
  have app : ∀ (Q' : Int × Int × Nat → Shared → Prop), Q' ((items.length : Int) - 1, -1, items.length) s → wpAny (model prog w) A.in1 (Builtin.Slice.sliceApplied (.ref sl) (pure ((items.toArray.size : Nat) : Int))) Q' E s := fun Q' h' => by
    unfold Builtin.Slice.sliceApplied Builtin.Slice.sliceFields
    refine wpAny_bind (wpAny_bind (wpAny_field hos hds (x := vl) rfl (wpAny_bind (wpAny_field hos hds (x := vu) rfl (wpAny_bind (wpAny_field hos hds (x := vs) rfl (wpAny_pure ?_)))))))
    refine wpAny_bind (HT.slicePart_ ps ?_)
    show wpAny _ _ (if ((-1 : Int) == 0) = true then _ else _) _ _ s
    rw [if_neg (by decide)]
    refine wpAny_bind (HT.slicePart_ pl (wpAny_bind (HT.slicePart_ pu (wpAny_bind (wpAny_pure ?_)))))
    show wpAny _ _ (match Builtin.Slice.sliceAdjust none none (-1) ((items.toArray.size : Nat) : Int) with | (lo, hi) => pure (lo, (-1 : Int), Builtin.Slice.slicePlaces lo hi (-1))) _ _ s
    rw [revAdjust]
    show wpAny _ _ (pure (((items.toArray.size : Nat) : Int) - 1, (-1 : Int), Builtin.Slice.slicePlaces (((items.toArray.size : Nat) : Int) - 1) (-1) (-1))) _ _ s
    rw [revPlaces, List.size_toArray]
    exact wpAny_pure h'
  refine wpAny_bind (app _ ?_)
  have hno : ¬ ((((items.length : Int) - 1) == 0 && (-1 : Int) == 1 && items.length == items.toArray.size) = true) := by
    intro q
    rw [Bool.and_eq_true, Bool.and_eq_true] at q
    exact absurd q.1.2 (by decide)
  show wpAny _ _ (if (((items.length : Int) - 1) == 0 && (-1 : Int) == 1 && items.length == items.toArray.size) = true then _ else _) _ _ s
  rw [if_neg hno, revPick]
  have htake : sizeOk (.seq items.reverse.toArray) := by
    show items.reverse.toArray.size ≤ sizeLine
    rw [List.size_toArray, List.length_reverse]
    exact hsz
  first
    | exact wpAny_bind (m := Builtin.Tuple.tupleExact _) (wpAny_newObj_type (wpAny_pure ⟨_, rfl, wpAny_pure h⟩) htake)
    | exact wpAny_bind (m := Builtin.Tuple.tupleExact _) (wpAny_newObj_type (wpAny_bind (wpAny_pure (wpAny_pure ⟨_, rfl, wpAny_pure h⟩))) htake)
    | exact wpAny_bind (wpAny_bind (m := Builtin.Tuple.tupleExact _) (wpAny_newObj_type (wpAny_pure (wpAny_pure ⟨_, rfl, wpAny_pure h⟩)) htake))
    | exact wpAny_bind (wpAny_bind (m := Builtin.Tuple.tupleExact _) (wpAny_newObj_type (wpAny_pure ⟨_, rfl, wpAny_pure h⟩) htake))
end
/-- x[::-1], a list or a tuple -/
def tRevA (K : PySem.W.Frag) (te : TE) : TE := fun σ H Q => te σ H fun x H1 => ∃ a xs, x = .ref a ∧ ((SqT K H1 a xs ∧ ∀ p, H1 p = none → Q (.ref p) (upd H1 p (.tup xs.reverse))))
theorem g_rev {X : Cx} {K : PySem.W.Frag} (hK : X.K = K) {e : Expr} {te : TE} {k : Nat} {p1 p2 p3 pos : Pos} (he : PE X e te) : PE X (.Subscript e (.Slice none none (some (.UnaryOp .USub (.Constant (.int 1) k p1) p2)) p3) pos) (tRevA K te) := by
  subst hK
  refine ⟨fun pins s σ H Q I h => ?_⟩
  refine Subscript_ (thn (he.run pins s σ H _ I h) fun v s1 ⟨x, H1, I1, r1, q1⟩ => ?_)
  obtain ⟨a, xs, ex, hx, q⟩ := q1
  subst ex
  cases r1
  have hst : PO X (some (.UnaryOp .USub (.Constant (.int 1) k p1) p2)) (tPart (tUn (rU fun i => .int (-i)) (tC (.int 1)))) := po_some (pe_un un_neg pe_int)
  refine wpAny_Slice (thn (po_none.run pins s1 σ H1 (fun o H2 => o = none ∧ H2 = H1) I1 ⟨rfl, rfl⟩) fun vl s2 ⟨l, H2, I2, pl, el, e2⟩ => ?_)
  subst el e2
  refine thn (po_none.run pins s2 σ H2 (fun o H3 => o = none ∧ H3 = H2) I2 ⟨rfl, rfl⟩) fun vu s3 ⟨u, H3, I3, pu, eu, e3⟩ => ?_
  subst eu e3
  refine thn (hst.run pins s3 σ H3 (fun o H4 => o = some (-1) ∧ H4 = H3) I3 ⟨1, rfl, -1, rfl, rfl, rfl⟩) fun vs s4 ⟨o, H4, I4, ps, eo, e4⟩ => ?_
  subst eo e4
  have I5 : Inv X pins σ H4 { s4 with heap := s4.heap.push { cls := .type "slice", data := .fields #[vl, vu, vs] } } := I4.kept (t' := s4.toks) fun b ob q => Heap.get?_push_of_some _ q
  obtain ⟨its, r, ht, hz⟩ := I5.tuple hx
  have hlen := r.length
  show wpAny (model X.prog X.w) X.A (subscriptTail e (.Slice none none (some (.UnaryOp .USub (.Constant (.int 1) k p1) p2)) p3) (.ref a) (.ref s4.heap.objs.size)) (EP X pins σ Q) X.xe { s4 with heap := s4.heap.push { cls := .type "slice", data := .fields #[vl, vu, vs] } }
  refine tail_any (ops := [.ref a, .ref s4.heap.objs.size]) ht.typeIs (PyProof.Rows.slot_tuple_getitem.lookup) ?_ (by with_unfolding_all rfl)
  refine getItem_tuple_rev ht (Heap.IsSliceOf.new _ vl vu vs) pl pu ps ?_ (by omega)
  refine ⟨.ref _, _, I5.laid (t' := s4.toks) (o := .tup xs.reverse) (fun b ob q => Heap.get?_push_of_some _ q) (Nat.le_refl _) ?_, rfl, q _ (I5.hok.fresh (Nat.le_refl _))⟩
  exact ⟨by rw [List.length_reverse]; exact hz, _, r.reverse, IsTup.new _ _⟩
theorem RpA.reverse {K : PySem.W.Frag} {H : Hp} : ∀ {vs : List V} {ds : List D}, RpA K H vs ds → RpA K H vs.reverse ds.reverse
  | _, _, .nil => .nil
  | _, _, .cons p q => by
    rw [List.reverse_cons, List.reverse_cons]
    exact (RpA.reverse q).append (.cons p .nil)
theorem ev_rev {G : Gx} {p : Bool} {b b' : Nat} {te : TE} {ds : List Sd} {xs : List D} (h : EvD G p b b' te ds (.tup xs)) : EvD G p b b' (tRevA G.K te) ds (.tup xs.reverse) := fun gs M H σ S Q k =>
  h gs M H σ S _ fun v d H' r e l rp => by
    subst r
    cases rp with
    | tup hs ha => exact ⟨_, _, rfl, sqt_unm hs, fun q hq => k _ _ _ rfl (e.trans (Ext.new hq)) (l.upd fun _ z => nomatch z) (new_tup ((S.step e l).mm p) hq (RpA.reverse ha))⟩
end Sh

/-! Sh16: defs with keyword-only defaults; constants that are tuples. -/
namespace Sh
open PySem PySem.Spec PySem.Calls PyProof.Rows L2
section
variable {K : PySem.W.Frag} {x qual : Str} {params : Arguments} {body : List Stmt} {scope : Scope} {kws : List (Str × V)} {f : Addr} {fd : FuncData} {ps : List Str}
/-- f(e, .., k = v): every parameter is written -/
theorem Kb.kw (F : FunD K x qual params body scope [] kws f fd) (n : Nat) (ks : List Str)
    (h : ∀ (kV doc pm : Value) (an : Option Addr) (cdv ct : Value) (us ws : List Value), us.length = n → ws.length = ks.length → bindArgs (PySem.W.fnOf x qual params body scope .none kV doc pm an cdv ct) ⟨us, ks.zip ws⟩ = pure (ps.zip (us ++ ws))) : Kb K fd ps n ks (fun vs zs => vs ++ zs) := by
  obtain ⟨oc, od, dV, kV, doc, pm, an, cdv, ct, osl, rfl, lk, hcd, hD, hK⟩ := F.ex
  rcases hD with ⟨_, rfl⟩ | ⟨e, _⟩
  · exact ⟨fun s us ws vs zs X r rz l1 l2 => ⟨us ++ ws, r.append rz, .of_eq (h kV doc pm an cdv ct us ws (by rw [← r.length, l1]) (by rw [← rz.length, l2]))⟩⟩
  · exact absurd rfl e
/-- f(e, ..): the keyword-only ones lack -/
theorem Kb.dflt (F : FunD K x qual params body scope [] kws f fd) (n : Nat) (hk : kws ≠ []) (hn : n + kws.length = ps.length)
    (h : ∀ (D : Addr) (doc pm : Value) (an : Option Addr) (cdv ct : Value) (us ks : List Value), us.length = n → ks.length = kws.length →
      KwChain D ((kws.map (·.1)).zip ks) (bindArgs (PySem.W.fnOf x qual params body scope .none (.ref D) doc pm an cdv ct) ⟨us, []⟩) (ps.zip (us ++ ks))) : Kb K fd ps n [] (fun vs _ => vs ++ kws.map (·.2)) := by
  obtain ⟨ds, r1, b⟩ := F.binds0 n hk hn h
  refine ⟨fun s us ws vs zs X r rz l1 l2 => ?_⟩
  cases zs with
  | cons _ _ => cases l2
  | nil =>
    cases rz
    refine ⟨us ++ ds, r.append r1, b s us X ?_⟩
    rw [List.length_append, ← r.length, ← r1.length, List.length_map, l1, hn]
/-- what stands behind the top of such a def -/
theorem fund_mk {oc kV doc pm cdv ct : Value} {od an : Option Addr} {osl : Array (Option Value)} {D : Addr} (l : K.lookup f = some ⟨oc, od, .func (PySem.W.fnOf x qual params body scope .none (.ref D) doc pm an cdv ct), osl⟩) (c : PySem.W.codeIn K cdv qual = true) (kp : PySem.W.keepIn K (.ref f) = true)
    (h : ∀ q ∈ kws, ∃ u, PySem.W.nsIn K D q.1 = some (some u) ∧ RelV q.2 u) : FunD K x qual params body scope [] kws f (PySem.W.fnOf x qual params body scope .none (.ref D) doc pm an cdv ct) :=
  ⟨⟨oc, od, .none, .ref D, doc, pm, an, cdv, ct, osl, rfl, l, c, .inl ⟨rfl, rfl⟩, .inr ⟨D, rfl, h⟩⟩, kp⟩
/-- a tuple of numbers that stands in the written part -/
theorem ktup_ints {a : Addr} {dd : Option Addr} {its : Array Value} {n : Nat} {sl : Array (Option Value)} {ns : List Int} (l : K.lookup a = some ⟨.type "tuple", dd, .seq its n, sl⟩) (hz : its.size ≤ 100000) (hi : IntsAre its.toList ns) (H : Hp) : Rp K H (.ref a) (.tup (ns.map D.int)) := by
  have rv : ∀ {vs : List Value} {ns : List Int}, IntsAre vs ns → Vals (ns.map V.int) vs := fun h => vals_ints h
  have ra : ∀ ns : List Int, RpA K H (ns.map V.int) (ns.map D.int) := fun ns => by
    induction ns with
    | nil => exact .nil
    | cons n ns ih => exact .cons (.int n) ih
  exact .tup (.inr ⟨_, its, n, l, rfl, rfl, Nat.le_trans hz (by decide), rv hi⟩) (ra ns)
end
section
variable {G : Gx} {p : Bool} {b b' b1 b2 c : Nat} {t tk : TA} {ds : List Sd} {F : Fd} {n m : Nat} {E : L2.St → XK} {es fs : List D} {z : D} {R : D → Prop}
/-- f(e, .., k = v) -/
theorem ev_calK (ha : EaD G p b b1 t ds es) (hk : EaD G p b1 b2 tk ds fs) (h : Cal F (es ++ fs) z) (hn : es.length = n) (hm : fs.length = m) : EvD G p b b2 (tCl n m (SpD G.K F) (fun vs zs => vs ++ zs) E t tk) ds z :=
  (evs_cl (F := F) (gD := fun es fs => es ++ fs) ha hk (fun _ _ _ _ _ r q => r.append q) hm fun es' e => by
    subst e
    exact ⟨hn, h.n, h.dom, by rw [h.cost, Nat.zero_add]; exact Nat.le_refl _, fun C x q => absurd q (h.exn C x)⟩).imp fun d ⟨es', e, q⟩ => by
    subst e
    exact h.res d q
/-- f(e, ..), the rest by default -/
theorem ev_calD {vz : List V} {dz : List D} (hz : ∀ H : Hp, RpA G.K H vz dz) (ha : EaD G p b b1 t ds es) (h : Cal F (es ++ dz) z) (hn : es.length = n) : EvD G p b b1 (tCl n 0 (SpD G.K F) (fun vs _ => vs ++ vz) E t tNil) ds z :=
  (evs_cl (F := F) (gD := fun es _ => es ++ dz) (fs := []) ha ea_nil (fun H _ _ _ _ r _ => r.append (hz H)) rfl fun es' e => by
    subst e
    exact ⟨hn, h.n, h.dom, by rw [h.cost, Nat.zero_add]; exact Nat.le_refl _, fun C x q => absurd q (h.exn C x)⟩).imp fun d ⟨es', e, q⟩ => by
    subst e
    exact h.res d q
end
end Sh
namespace Sh
open PySem PySem.Spec PySem.Calls PyProof.Rows L2
theorem g_lst {X : Cx} {K : PySem.W.Frag} (hK : X.K = K) {es : List Expr} {k : Nat} {t : TGs} {n : Nat} {pos : Pos} (hc : X.calm = true) (h : PGs X es t)
    (hn : (assignEach es X.env).length = n := by rfl) (hst : (assignEach es X.env).findIdx? (·.1) = none := by rfl) : PG X (.Tuple es k pos) (gLst K n t) := by subst hK; exact pg_lst hc h hn hst
/-- a list's items -/
theorem tg_lst {K : PySem.W.Frag} {vs : List Nat} {t : TGs} {es : List D} {ds ds1 : List Sd} {n : Nat} (h : TgsR K vs t es ds ds1) (hl : es.length = n := by rfl) : TgR K vs (gLst K n t) (.lst es) ds ds1 := fun H0 M0 gs M b H σ v S r Q k => by
  cases r with
  | lst hs ha => exact ⟨_, _, rfl, SqL.of (msk_of hs).2, by rw [ha.length, hl], h H0 M0 gs M b H σ _ S ha Q k⟩
end Sh

/-! Sh17: comprehensions with two fors. -/
namespace Sh
open PySem PySem.Spec PySem.Calls PyProof.Rows L2
/-- a masked object that no slot owns is changed -/
theorem Stt.updM {K : PySem.W.Frag} {H0 H : Hp} {M0 M : Addr → Prop} {b : Nat} {σ : List (Option V)} {ds : List Sd} {gs : List (V × D)} (S : Stt K H0 M0 gs M b H σ ds) {D : Addr} {o : HO} (m : M D) (n0 : ¬ M0 D) (ho : ∀ φ, o ≠ .ext φ)
    (hno : ∀ j, ¬ At σ ds j D) : Stt K H0 M0 gs M b (upd H D o) σ ds := by
  have hm : msk M (upd H D o) = msk M H := msk_upd m
  refine ⟨S.ext.mut (S.new D m n0), S.m0, S.new, fun a h => ?_, S.lim.upd ho, S.len, fun j s d h1 h2 => ?_, S.inj, S.ownNew, fun q hq => by rw [hm]; exact S.gh q hq⟩
  · by_cases e : a = D
    · rw [e, upd_same]; exact fun z => nomatch z
    · rw [upd_ne e]; exact S.liv a h
  · refine (S.sl j s d h1 h2).chg (by rw [hm]; exact Kp.refl _) (fun _ _ m => m) fun a u ha hu _ => ?_
    rw [upd_ne fun z => hno j ⟨s, d, h1, h2, by rw [← z]; exact ha⟩]
    exact hu
def flat2 (m : Nat → Nat) (kp : Nat → Nat → Bool) (f : Nat → Nat → D) (i : Nat) : List D := (List.range i).flatMap fun i => ((List.range (m i)).filter (kp i)).map (f i)
theorem flat2_step (m : Nat → Nat) (kp : Nat → Nat → Bool) (f : Nat → Nat → D) (i : Nat) : flat2 m kp f (i + 1) = flat2 m kp f i ++ ((List.range (m i)).filter (kp i)).map (f i) := by
  unfold flat2
  rw [List.range_succ, List.flatMap_append]
  simp
theorem eo_lc2 {G : Gx} {b b' : Nat} {wi wi1 : TI} {g g1 : TG} {tt1 : TT} {te : TE} {vs vs1 : List Nat} {ds : List Sd} {n : Nat} {it : Nat → D} (m : Nat → Nat) (it1 : Nat → Nat → D) (kp : Nat → Nat → Bool) (f : Nat → Nat → D) (hi : EvI G b b' wi ds n it)
    (hlen : ∀ i j, i < n → j ≤ m i → (flat2 m kp f i ++ ((List.range j).filter (kp i)).map (f i)).length ≤ 100000)
    (hs : ∀ i, i < n → ∃ ds'', TgR G.K vs g (it i) (wipeD ds vs) ds'' ∧ (∀ s ∈ ds'', isOwn s = false) ∧ (∀ b0, EvI G b0 b0 wi1 ds'' (m i) (it1 i)) ∧ ∀ j, j < m i → ∃ ds3, TgR G.K vs1 g1 (it1 i j) (wipeD ds'' vs1) ds3 ∧ ∀ b0, EtD G b0 b0 tt1 ds3 (kp i j) ∧ (kp i j = true → EvD G true b0 b0 te ds3 (f i j))) :
    EoD G b b' (tLc2 wi g tYes wi1 g1 tt1 te vs vs1) ds (flat2 m kp f n) := fun gs M H σ S Q k =>
  hi gs M H σ S _ fun J gs' H1 e l hg ok => fun D hD => by
    have S1 : Stt G.K G.H0 G.M0 (gs' ++ gs) M b' H1 σ ds := (S.step e l).ghosts hg
    have nMD : ¬ M D := fun z => S1.liv D z hD
    have ww : ∀ (σ : List (Option V)) (vs : List Nat), L2.wipe (L2.wipe σ vs) vs = L2.wipe σ vs := fun σ vs => by
      have main : ∀ ws : List Nat, (∀ v ∈ ws, v ∈ vs) → L2.wipe (L2.wipe σ ws) vs = L2.wipe σ vs := fun ws => by
        induction ws with
        | nil => intro _; rfl
        | cons v ws ih =>
          intro hv
          show L2.wipe ((L2.wipe σ ws).set v none) vs = L2.wipe σ vs
          rw [wipe_in _ _ _ _ (hv v List.mem_cons_self), ih fun u hu => hv u (List.mem_cons_of_mem _ hu)]
      exact main vs fun _ h => h
    refine ⟨fun i q H => q = n - i ∧ i ≤ n ∧ ∃ acc, Ext H1 H ∧ Lim b' H ∧ H D = some (.lst acc) ∧ RpA G.K (msk (fun a => M a ∨ a = D) H) acc (flat2 m kp f i), ⟨n, by omega, Nat.zero_le _, [], Ext.new hD, S1.lim.upd (fun _ z => nomatch z), upd_same, .nil⟩, ?_⟩
    rintro i q H2 ⟨rfl, hin, acc, e2, l2, hacc, racc⟩
    have S2 : Stt G.K G.H0 G.M0 (gs' ++ gs) (fun a => M a ∨ a = D) b' H2 σ ds := S1.grow hD e2 l2 (by rw [hacc]; exact fun z => nomatch z)
    by_cases hlt : i < n
    · refine .inr ⟨ok.go i _ H2 S2.gh' hlt, fun H => ∃ acc, Ext H1 H ∧ Lim b' H ∧ H D = some (.lst acc) ∧ RpA G.K (msk (fun a => M a ∨ a = D) H) acc (flat2 m kp f (i + 1)), fun H' z => ⟨n - (i + 1), by omega, rfl, hlt, z⟩, fun x H3 y => ?_⟩
      obtain ⟨x1, x2, x3⟩ := ok.yld i _ H2 S2.gh' hlt x H3 y
      obtain ⟨ds'', t1, hno, hi1, t2⟩ := hs i hlt
      have S3 := (S2.step x1 (x2 _ S2.lim)).wipe vs
      refine t1 _ _ _ _ _ H3 _ x S3 x3 _ fun σ4 S4 ew => ⟨by rw [ew]; exact ww σ vs, ?_⟩
      show wi1 σ4 H3 _
      refine hi1 b' _ _ H3 σ4 S4 _ fun J1 gs1 H4 e4 l4 hg1 ok1 => ?_
      have S5 : Stt G.K G.H0 G.M0 (gs1 ++ (gs' ++ gs)) (fun a => M a ∨ a = D) b' H4 σ4 ds'' := (S4.step e4 l4).ghosts hg1
      have e14 : Ext H1 H4 := (e2.trans x1).trans e4
      have hacc4 : H4 D = some (.lst acc) := e4.keep _ _ (x1.keep _ _ hacc fun _ z => nomatch z) fun _ z => nomatch z
      have racc4 := (racc.mono (msk_mono x1.toKp)).mono (msk_mono e4.toKp)
      have hnoD : ∀ j, ¬ At σ4 ds'' j D := fun j ⟨_, s, _, h2, h3⟩ => by have q := hno s (List.mem_of_getElem? h2); rw [adr_own h3] at q; cases q
      refine ⟨fun j q H => q = m i - j ∧ j ≤ m i ∧ ∃ acc, Stt G.K G.H0 G.M0 (gs1 ++ (gs' ++ gs)) (fun a => M a ∨ a = D) b' H σ4 ds'' ∧ Ext H1 H ∧ H D = some (.lst acc) ∧ RpA G.K (msk (fun a => M a ∨ a = D) H) acc (flat2 m kp f i ++ ((List.range j).filter (kp i)).map (f i)), ⟨m i, by omega, Nat.zero_le _, acc, S5, e14, hacc4, by simpa using racc4⟩, ?_⟩
      rintro j q H5 ⟨rfl, hjm, acc5, S6, e5, hacc5, racc5⟩
      by_cases hj : j < m i
      · refine .inr ⟨ok1.go j _ H5 S6.gh' hj, fun H => ∃ acc, Stt G.K G.H0 G.M0 (gs1 ++ (gs' ++ gs)) (fun a => M a ∨ a = D) b' H σ4 ds'' ∧ Ext H1 H ∧ H D = some (.lst acc) ∧ RpA G.K (msk (fun a => M a ∨ a = D) H) acc (flat2 m kp f i ++ ((List.range (j + 1)).filter (kp i)).map (f i)), fun H' z => ⟨m i - (j + 1), by omega, rfl, hj, z⟩, fun x' H6 y' => ?_⟩
        obtain ⟨z1, z2, z3⟩ := ok1.yld j _ H5 S6.gh' hj x' H6 y'
        obtain ⟨ds3, u1, u2⟩ := t2 j hj
        have S7 := (S6.step z1 (z2 _ S6.lim)).wipe vs1
        refine u1 _ _ _ _ _ H6 _ x' S7 z3 _ fun σ8 S8 ew8 => ⟨by rw [ew8]; exact ww σ4 vs1, ?_⟩
        obtain ⟨q1, q2⟩ := u2 b'
        refine q1 _ _ H6 σ8 S8 _ fun kp' H7 r7 e7 l7 => ?_
        subst r7
        have er : (List.range (j + 1)).filter (kp i) = (List.range j).filter (kp i) ++ if kp i j = true then [j] else [] := by
          rw [List.range_succ, List.filter_append]
          cases hkp : kp i j <;> simp [hkp]
        have e57 := z1.trans e7
        have hacc7 : H7 D = some (.lst acc5) := e57.keep _ _ hacc5 fun _ z => nomatch z
        have racc7 := racc5.mono (msk_mono e57.toKp)
        cases hkp : kp i j with
        | false =>
          show ∃ acc, _
          refine ⟨acc5, S6.step e57 l7, e5.trans e57, hacc7, ?_⟩
          rw [er, hkp]
          simpa using racc7
        | true =>
          show te σ8 H7 _
          refine q2 hkp _ _ H7 σ8 (S8.step e7 l7) _ fun v d H8 r8 e8 l8 rp8 => ?_
          subst r8
          have e58 := e57.trans e8
          have hacc8 : H8 D = some (.lst acc5) := e8.keep _ _ hacc7 fun _ z => nomatch z
          have len : acc5.length ≤ 100000 := by
            rw [racc5.length]
            exact hlen i j hlt hjm
          have S9 := (S6.step e58 l8).updM (D := D) (o := .lst (acc5 ++ [v])) (.inr rfl) (fun z => nMD (S1.m0 D z)) (fun _ z => nomatch z) hnoD
          refine ⟨acc5, hacc8, Nat.lt_of_le_of_lt len (by decide), acc5 ++ [v], S9, (e5.trans e58).mut hD, upd_same, ?_⟩
          rw [er, hkp, msk_upd (.inr rfl), if_pos rfl, List.map_append, ← List.append_assoc]
          exact (racc7.mono (msk_mono e8.toKp)).append (.cons rp8 .nil)
      · have en : j = m i := by omega
        subst en
        refine .inl ⟨ok1.stop _ H5 S6.gh', acc5, e5, S6.lim, hacc5, ?_⟩
        rw [flat2_step]
        exact racc5
    · have en : i = n := by omega
      subst en
      exact .inl ⟨ok.stop _ H2 S2.gh', k D acc _ H2 rfl (e.trans e2) l2 (e.free hD) hacc racc⟩
end Sh

/-! Sh18: stores to slices, extend. -/
namespace Sh
open PySem PySem.Spec PySem.Calls PyProof.Rows L2
/-- o[lo:hi] = v -/
def gSubS (to : TE) (tl th : TO) : TG := fun v σ H Q => to σ H fun x H1 => tl σ H1 fun lo H2 => th σ H2 fun hi H3 => ∃ (l b : Addr) (xs ys : List V) (a c : Int), x = .ref l ∧ v = .ref b ∧ lo = some a ∧ hi = some c ∧ H3 l = some (.lst xs) ∧ H3 b = some (.lst ys) ∧ l ≠ b ∧
  0 ≤ a ∧ a ≤ c ∧ c ≤ xs.length ∧ xs.length + ys.length ≤ sizeLine ∧ Q σ (upd H3 l (.lst (xs.take a.toNat ++ ys ++ xs.drop c.toNat)))
theorem part_int {v : Value} {a : Int} (h : IsPart v (some a)) : RelV (.int a) v := by
  cases h with
  | int i t => exact ⟨t, rfl⟩
section
variable {X : Cx} {pos p2 : Pos}
theorem pg_subS {o : Expr} {lo hi : Option Expr} {to : TE} {tl th : TO} (ho : PE X o to) (hl : PO X lo tl) (hu : PO X hi th)
    (ha : ∀ v, assign (.Subscript o (.Slice lo hi none p2) pos) X.env v = (do
      let ov ← holding [v] (eval o X.env)
      let iv ← holding [v, ov] (eval (.Slice lo hi none p2) X.env)
      standAt pos
      holding [v, ov, iv] (setItem ov iv v)
      release [iv, v, ov] []) := by intro _; rfl) : PG X (.Subscript o (.Slice lo hi none p2) pos) (gSubS to tl th) := by
  refine ⟨fun pins s σ H v u Q I r h => ?_⟩
  rw [ha]
  refine wpAny_bind (wpAny_holding (thn (ho.run pins s σ H _ I h) fun ov s1 ⟨x, H1, I1, r1, q1⟩ => ?_))
  refine wpAny_bind (wpAny_holding (wpAny_Slice (thn (hl.run pins s1 σ H1 _ I1 q1) fun vl s2 ⟨l, H2, I2, pl, q2⟩ => thn (hu.run pins s2 σ H2 _ I2 q2) fun vu s3 ⟨w, H3, I3, pu, q3⟩ => ?_)))
  rw [evalPart_none]
  refine wpAny_pure ?_
  have I4 : Inv X pins σ H3 { s3 with heap := s3.heap.push { cls := .type "slice", data := .fields #[vl, vu, .none] } } := I3.kept (t' := s3.toks) fun b ob q => Heap.get?_push_of_some _ q
  obtain ⟨l0, b0, xs, ys, a, c, e1, e2, e3, e4, hH, hB, hne, h0, hac, hc, hz, q⟩ := q3
  subst e1 e2 e3 e4
  cases r1
  cases r
  refine wpAny_bind (wpAny_standAt (wpAny_bind (wpAny_holding ?_)))
  exact set_slice I4 hH hB hne (Heap.IsSliceOf.new ..) (part_int pl) (part_int pu) h0 hac hc hz fun s' I' => wpAny_release ⟨σ, _, I', q⟩
end
theorem g_extend {X : Cx} : MtR X "list.extend" rExtend := mt_extend
section
variable {G : Gx} {b b' b1 b2 b3 : Nat} {te : TE} {tl th : TO} {ds : List Sd} {E : DE} {i : Nat} {xs ys : List D} {a c : Int}
/-- xs[a:c] = ys, xs our own -/
theorem w_setSl (hi : ds[i]? = some (.own xs)) (h : EvD G true b b1 te ds (.lst ys)) (hl : EpD G b1 b2 tl ds (some a)) (hh : EpD G b2 b3 th ds (some c)) (h0 : 0 ≤ a) (hac : a ≤ c) (hc : c ≤ xs.length) (hz : xs.length + ys.length ≤ 100000)
    (k : E.nx (ds.set i (.own (xs.take a.toNat ++ ys ++ xs.drop c.toNat))) b3) : Wt G b (tAsg te (gSubS (tVar i) tl th)) ds E := fun gs M H σ S Dn w => by
  refine h gs M H σ S _ fun v d' H1 r e1 l1 rp => ?_
  subst r
  have S1 := S.step e1 l1
  obtain ⟨a0, vs, hσ, m, ha, rr, n0⟩ := S1.ownL hi
  refine ⟨.ref a0, hσ, ?_⟩
  refine hl gs M H1 σ S1 _ fun H2 e2 l2 => hh gs M H2 σ (S1.step e2 l2) _ fun H3 e3 l3 => ?_
  have S3 := (S1.step e2 l2).step e3 l3
  have ha3 : H3 a0 = some (.lst vs) := e3.keep _ _ (e2.keep _ _ ha fun _ z => nomatch z) fun _ z => nomatch z
  have rp3 := (rp.mono (msk_mono e2.toKp)).mono (msk_mono e3.toKp)
  have rr3 := (rr.mono (msk_mono e2.toKp)).mono (msk_mono e3.toKp)
  cases rp3 with
  | @lst b0 ws _ hb rb =>
    obtain ⟨mb, hb2⟩ := msk_of hb
    have e5 := rr3.length
    have e6 := rb.length
    refine ⟨a0, b0, vs, ws, a, c, rfl, rfl, rfl, rfl, ha3, hb2, fun z => mb (show M b0 by rw [← z]; exact m), h0, hac, by rw [e5]; exact hc, by rw [e5, e6]; exact Nat.le_trans hz (by decide), ?_⟩
    exact w.nx M b3 _ σ _ (S3.chg hi hσ (((RpA.take _ rr3).append rb).append (RpA.drop _ rr3))) k
/-- xs.extend(e), xs our own -/
theorem ws_ext {R : List D → Prop} (hi : ds[i]? = some (.own xs)) (h : EvS G true b b' te ds (fun d => ∃ ys, d = .lst ys ∧ R ys)) (hl : ∀ ys, R ys → xs.length + ys.length ≤ 100000) (k : ∀ ys, R ys → E.nx (ds.set i (.own (xs ++ ys))) b') :
    Wt G b (tDrop (tBM G.K "list" rExtend (tVar i) (tCons te tNil))) ds E := fun gs M H σ S Dn w => by
  obtain ⟨a, vs, hσ, m, ha, r, n0⟩ := S.ownL hi
  refine ⟨.ref a, hσ, .inl ⟨rfl, vs, SqL.of ha⟩, ?_⟩
  refine h gs M H σ S _ fun v d H' rd e l rp => ?_
  obtain ⟨ys, rfl, ry⟩ := rd
  have S' := S.step e l
  have ha' : H' a = some (.lst vs) := e.keep _ _ ha fun _ z => nomatch z
  cases rp with
  | @lst b0 ws _ hb rb =>
    obtain ⟨mb, hb2⟩ := msk_of hb
    refine ⟨a, b0, vs, ws, rfl, rfl, ha', hb2, by rw [r.length, rb.length]; exact Nat.le_trans (hl ys ry) (by decide), ?_⟩
    exact w.nx M b' _ σ _ (S'.chg hi hσ ((r.mono (msk_mono e.toKp)).append rb)) (k ys ry)
theorem w_ext (hi : ds[i]? = some (.own xs)) (h : EvD G true b b' te ds (.lst ys)) (hl : xs.length + ys.length ≤ 100000) (k : E.nx (ds.set i (.own (xs ++ ys))) b') :
    Wt G b (tDrop (tBM G.K "list" rExtend (tVar i) (tCons te tNil))) ds E := ws_ext (R := fun zs => zs = ys) hi (h.imp fun d e => ⟨ys, e, rfl⟩) (fun zs e => by rw [e]; exact hl) fun zs e => by rw [e]; exact k
end
end Sh
namespace Sh
open PySem PySem.Spec PySem.Calls PyProof.Rows L2
/-! ### is True, in -/
theorem g_isB {X : Cx} : OpR X (compareOp .Is) rIsB := op_isBl
theorem g_notB {X : Cx} : OpR X (compareOp .IsNot) rNotB := op_notBl
def rInS : R2 := fun x y H Q => ∃ i j, x = .str i ∧ y = .str j ∧ Q (.bl (!(Builtin.Str.occurrences j i 0 j.length 1).isEmpty)) H
def rNotInS : R2 := fun x y H Q => ∃ i j, x = .str i ∧ y = .str j ∧ Q (.bl (!(!(Builtin.Str.occurrences j i 0 j.length 1).isEmpty))) H
def rInK : R2 := fun x y H Q => ∃ a o, y = .ref a ∧ DGet H a x o ∧ Q (.bl o.isSome) H
def rNotInK : R2 := fun x y H Q => ∃ a o, y = .ref a ∧ DGet H a x o ∧ Q (.bl (!o.isSome)) H
theorem op_inK {X : Cx} (hu : X.A.units + 1 < cLine) : OpR X (compareOp .In) rInK := by
  intro pins s σ H x y v u Q I rx ry h
  obtain ⟨a, o, rfl, g, q⟩ := h
  cases ry
  exact d_in hu I g rx fun s' I' => ⟨.bl _, H, I', rfl, q⟩
theorem op_notInK {X : Cx} (hu : X.A.units + 1 < cLine) : OpR X (compareOp .NotIn) rNotInK := by
  intro pins s σ H x y v u Q I rx ry h
  obtain ⟨a, o, rfl, g, q⟩ := h
  cases ry
  exact d_notIn hu I g rx fun s' I' => ⟨.bl _, H, I', rfl, q⟩
def rInA (K : PySem.W.Frag) : R2 := fun x y H Q => rIn K false x y H Q ∨ rInD K x y H Q ∨ rInS x y H Q ∨ rInK x y H Q
def rNotInA (K : PySem.W.Frag) : R2 := fun x y H Q => rIn K true x y H Q ∨ rNotInD K x y H Q ∨ rNotInS x y H Q ∨ rNotInK x y H Q
theorem g_in {X : Cx} {K : PySem.W.Frag} (hK : X.K = K) {k : Nat} (hr : Room k X.A) : OpR X (compareOp .In) (rInA K) := by
  subst hK
  exact op_in_seq.or ((op_inD (by have := hr.un; show X.A.units + 65 < 9900; unfold cLine at this; omega)).or (op_in_str.or (op_inK (hu_of hr))))
theorem g_notin {X : Cx} {K : PySem.W.Frag} (hK : X.K = K) {k : Nat} (hr : Room k X.A) : OpR X (compareOp .NotIn) (rNotInA K) := by
  subst hK
  exact op_notIn_seq.or ((op_notInD (by have := hr.un; show X.A.units + 65 < 9900; unfold cLine at this; omega)).or (op_notIn_str.or (op_notInK (hu_of hr))))
section
variable {K : PySem.W.Frag} {a c : Bool} {n : Int} {ns : List Int}
theorem o_isB : Op2D K rIsB (.bl a) (.bl c) (.bl (decide (a = c))) := fun N b H v u Q hN l r1 r2 k => by
  cases r1
  cases r2
  exact ⟨a, c, rfl, rfl, k _ _ H rfl (Ext.refl H) l (.bl _)⟩
theorem o_notB : Op2D K rNotB (.bl a) (.bl c) (.bl (!decide (a = c))) := fun N b H v u Q hN l r1 r2 k => by
  cases r1
  cases r2
  exact ⟨a, c, rfl, rfl, k _ _ H rfl (Ext.refl H) l (.bl _)⟩
theorem inV_ints (n : Int) : ∀ ns : List Int, inV (.int n) (ns.map V.int) = decide (n ∈ ns)
  | [] => by simp [inV]
  | m :: ns => by
    have ih := inV_ints n ns
    unfold inV at ih ⊢
    rw [List.map_cons, List.any_cons, ih]
    have e : eqV (.int m) (.int n) = decide (n = m) := by
      show (m == n) = decide (n = m)
      by_cases h : n = m
      · rw [h]; simp
      · rw [decide_eq_false h]; simp; exact fun z => h z.symm
    rw [e]
    by_cases h : n = m
    · simp [h]
    · simp [h]
theorem flat_ints : ∀ ns : List Int, (ns.map V.int).all flatV = true
  | [] => rfl
  | m :: ns => by rw [List.map_cons, List.all_cons, flat_ints ns]; rfl
theorem o_inI : Op2D K (rInA K) (.int n) (.lst (ns.map D.int)) (.bl (decide (n ∈ ns))) := fun N b H v u Q hN l r1 r2 k => by
  cases r1
  cases r2 with
  | lst ha r =>
    have e := r.ints
    subst e
    refine .inl ⟨_, _, rfl, .inl (SqL.of (msk_of ha).2), rfl, flat_ints ns, ?_⟩
    show Q (.bl (inV _ _)) H
    rw [inV_ints]
    exact k _ _ H rfl (Ext.refl H) l (.bl _)
theorem o_notinI : Op2D K (rNotInA K) (.int n) (.lst (ns.map D.int)) (.bl (!decide (n ∈ ns))) := fun N b H v u Q hN l r1 r2 k => by
  cases r1
  cases r2 with
  | lst ha r =>
    have e := r.ints
    subst e
    refine .inl ⟨_, _, rfl, .inl (SqL.of (msk_of ha).2), rfl, flat_ints ns, ?_⟩
    show Q (.bl (!inV _ _)) H
    rw [inV_ints]
    exact k _ _ H rfl (Ext.refl H) l (.bl _)
theorem o_inIT : Op2D K (rInA K) (.int n) (.tup (ns.map D.int)) (.bl (decide (n ∈ ns))) := fun N b H v u Q hN l r1 r2 k => by
  cases r1
  cases r2 with
  | tup ha r =>
    have e := r.ints
    subst e
    refine .inl ⟨_, _, rfl, .inr (sqt_unm ha), rfl, flat_ints ns, ?_⟩
    show Q (.bl (inV _ _)) H
    rw [inV_ints]
    exact k _ _ H rfl (Ext.refl H) l (.bl _)
theorem pyA_any (d : D) : ∀ xs : List D, ((D.pyA xs).any fun z => PyData.eqv z d.py) = xs.any fun x => D.eq x d
  | [] => rfl
  | x :: xs => by simp only [D.pyA, List.any_cons, pyA_any d xs]; rfl
/-- any data -/
theorem o_inD {d : D} {xs : List D} (hd : D.shp 64 d = true) (hx : D.shp 64 (.lst xs) = true) : Op2D K (rInA K) d (.lst xs) (.bl (xs.any fun x => D.eq x d)) := fun N b H v u Q hN l r1 r2 k => by
  refine .inr (.inl ⟨d.py, D.pyA xs, (r1.mono msk_all).dp hd, (r2.mono msk_all).dp hx, shp_shaped hd, shp_shaped hx, ?_⟩)
  rw [pyA_any]
  exact k _ _ H rfl (Ext.refl H) l (.bl _)
theorem o_notinD {d : D} {xs : List D} (hd : D.shp 64 d = true) (hx : D.shp 64 (.lst xs) = true) : Op2D K (rNotInA K) d (.lst xs) (.bl (!xs.any fun x => D.eq x d)) := fun N b H v u Q hN l r1 r2 k => by
  refine .inr (.inl ⟨d.py, D.pyA xs, (r1.mono msk_all).dp hd, (r2.mono msk_all).dp hx, shp_shaped hd, shp_shaped hx, ?_⟩)
  rw [pyA_any]
  exact k _ _ H rfl (Ext.refl H) l (.bl _)
end
end Sh
namespace Sh
open PySem PySem.Spec PySem.Calls PyProof.Rows L2
section
variable {G : Gx} {p : Bool} {b b' b1 b2 b3 : Nat} {ta tb te : TE} {ds : List Sd} {xs ys : List D} {i : Int}
/-- [..] * n, + of lists, slices of lists: nothing else knows them -/
theorem eo_rep (h1 : EvD G true b b1 ta ds (.lst xs)) (h2 : EvD G true b1 b2 tb ds (.int i)) (h0 : -(2 ^ 62) ≤ i ∧ i < 2 ^ 62) (hl : xs.length * i.toNat ≤ 100000) : EoD G b b2 (tOp rMulA ta tb) ds (List.replicate i.toNat xs).flatten := fun gs M H σ S Q k =>
  h1 gs M H σ S _ fun v d H1 r e1 l1 rp => h2 gs M H1 σ (S.step e1 l1) _ fun u d2 H2 r2 e2 l2 rp2 => by
    subst r r2
    cases rp2
    have rp' := rp.mono (msk_mono e2.toKp)
    cases rp' with
    | @lst a vs _ ha a1 =>
      have rep : ∀ n : Nat, RpA G.K (msk M H2) (List.replicate n vs).flatten (List.replicate n xs).flatten := fun n => by
        induction n with
        | zero => exact .nil
        | succ n ih =>
          rw [List.replicate_succ, List.replicate_succ, List.flatten_cons, List.flatten_cons]
          exact a1.append ih
      exact .inr ⟨a, i, vs, rfl, rfl, (msk_of ha).2, by omega, by omega, by rw [a1.length]; exact Nat.le_trans hl (by decide), fun q hq => k q _ _ _ rfl ((e1.trans e2).trans (Ext.new hq)) (l2.upd fun _ z => nomatch z) ((e1.trans e2).free hq) upd_same (eo_new (H' := H2) hq (rep _))⟩
theorem eo_catL (h1 : EvD G true b b1 ta ds (.lst xs)) (h2 : EvD G true b1 b2 tb ds (.lst ys)) (hl : xs.length + ys.length ≤ 100000) : EoD G b b2 (tOp (rAddA G.K) ta tb) ds (xs ++ ys) := fun gs M H σ S Q k =>
  h1 gs M H σ S _ fun v d H1 r e1 l1 rp => h2 gs M H1 σ (S.step e1 l1) _ fun u d2 H2 r2 e2 l2 rp2 => by
    subst r r2
    have rp' := rp.mono (msk_mono e2.toKp)
    cases rp' with
    | @lst a vs _ ha a1 =>
      cases rp2 with
      | @lst c ws _ hc a2 =>
        have e5 := a1.length
        have e6 := a2.length
        exact .inr (.inr (.inl ⟨a, c, vs, ws, rfl, rfl, (msk_of ha).2, (msk_of hc).2, by rw [e5, e6]; exact Nat.le_trans hl (by decide), fun q hq => k q _ _ _ rfl ((e1.trans e2).trans (Ext.new hq)) (l2.upd fun _ z => nomatch z) ((e1.trans e2).free hq) upd_same (eo_new (H' := H2) hq (a1.append a2))⟩))
theorem eo_slL {tl th : TO} {lo hi : Option Int} (h : EvD G true b b1 te ds (.lst xs)) (hl : EpD G b1 b2 tl ds lo) (hh : EpD G b2 b3 th ds hi) : EoD G b b3 (tSl (rSlG G.K) te tl th) ds (slcD xs lo hi) := fun gs M H σ S Q k =>
  h gs M H σ S _ fun v d H1 r e1 l1 rp => hl gs M H1 σ (S.step e1 l1) _ fun H2 e2 l2 => hh gs M H2 σ ((S.step e1 l1).step e2 l2) _ fun H3 e3 l3 => by
    subst r
    have e := (e1.trans e2).trans e3
    have rp' := (rp.mono (msk_mono e2.toKp)).mono (msk_mono e3.toKp)
    cases rp' with
    | @lst a vs _ ha a1 => exact .inl ⟨_, _, rfl, SqL.of (msk_of ha).2, fun q hq => k q _ _ _ rfl (e.trans (Ext.new hq)) (l3.upd fun _ z => nomatch z) (e.free hq) upd_same (eo_new (H' := H3) hq (a1.cut lo hi))⟩
end
end Sh
namespace Sh
open PySem PySem.Spec PySem.Calls PyProof.Rows L2
section
variable {G : Gx} {b b' b1 : Nat} {tt tu : TT} {ds : List Sd} {R1 R2 R : Bool → Prop}
theorem EvT.imp {b b' : Nat} (h : EvT G b b' tt ds R1) (i : ∀ c, R1 c → R c) : EvT G b b' tt ds R := fun gs M H σ S Q k => h gs M H σ S Q fun c H' r => k c H' (i c r)
theorem EvT.less (h : EvT G b b1 tt ds R) (e : b' ≤ b1) : EvT G b b' tt ds R := fun gs M H σ S Q k => h gs M H σ S Q fun c H' r x l => k c H' r x (l.mono e)
theorem ets_and (h : EvT G b b1 tt ds R1) (h2 : R1 true → EvT G b1 b' tu ds R2) (hb : b' ≤ b1) (i1 : R1 false → R false) (i2 : ∀ c, R1 true → R2 c → R c) : EvT G b b' (tAnd tt tu) ds R := fun gs M H σ S Q k => h gs M H σ S _ fun v H' r x l => by
  cases v with
  | true => exact (by show tu σ H' Q; exact h2 r gs M H' σ (S.step x l) Q fun w H2 r2 x2 l2 => k w H2 (i2 w r r2) (x.trans x2) l2)
  | false => exact (by show Q false H'; exact k false H' (i1 r) x (l.mono hb))
theorem ets_or (h : EvT G b b1 tt ds R1) (h2 : R1 false → EvT G b1 b' tu ds R2) (hb : b' ≤ b1) (i1 : R1 true → R true) (i2 : ∀ c, R1 false → R2 c → R c) : EvT G b b' (tOr tt tu) ds R := fun gs M H σ S Q k => h gs M H σ S _ fun v H' r x l => by
  cases v with
  | false => exact (by show tu σ H' Q; exact h2 r gs M H' σ (S.step x l) Q fun w H2 r2 x2 l2 => k w H2 (i2 w r r2) (x.trans x2) l2)
  | true => exact (by show Q true H'; exact k true H' (i1 r) x (l.mono hb))
theorem ets_not (h : EvT G b b' tt ds R1) (i : ∀ c, R1 c → R (!c)) : EvT G b b' (tNot tt) ds R := fun gs M H σ S Q k => h gs M H σ S _ fun v H' r e l => k (!v) H' (i v r) e l
/-- some draw == a number -/
theorem ets_eqI {ta : TE} {n : Int} (h : EvS G false b b' ta ds (fun d => ∃ i : Int, d = .int i)) : EvT G b b' (tTest (tOp (rEqD G.K) ta (tC (.int n)))) ds (fun _ => True) :=
  ets_tst (evs_op (R := fun d => ∃ c, d = .bl c ∧ True) h (fun _ _ => ev_int) fun x y ⟨i, e⟩ e2 => by rw [e, e2]; exact Op2.to o_eqI ⟨_, rfl, trivial⟩)
end
end Sh

namespace Sh
open PySem PySem.Spec PySem.Calls PyProof.Rows L2
/-! ### == and != of dicts of flat values, read alone -/
def DSame (H : Hp) (x y : V) : Prop := ∃ a b ks ls, x = .ref a ∧ y = .ref b ∧ Rd H a (.dK ks) ∧ Rd H b (.dK ls) ∧ ks.length = ls.length ∧ ∀ p ∈ ks, valV ls p.1 = some p.2 ∧ flatB p.2 = true
def rEqDR : R2 := fun x y H Q => DSame H x y ∧ Q (.bl true) H
def rNeDR : R2 := fun x y H Q => DSame H x y ∧ Q (.bl false) H
theorem DGet.r {H : Hp} {a : Addr} {kvs : List (Key × V)} {k : Key} (e : Rd H a (.dK kvs)) : DGet H a (kV k) (valV kvs k) := .inl ⟨kvs, k, e, rfl, rfl⟩
section
variable {X : Cx}
theorem dsame_at {pins : List (Addr × Obj)} {σ : L2.St} {H : Hp} {s : Shared} {x y : V} {v u : Value} {E : Value → Shared → Prop} {Q : Value → Shared → Prop} (I : Inv X pins σ H s) (rx : RelV x v) (ry : RelV y u) (h : DSame H x y) (hu : X.A.units < cLine) :
    (Q (.bool true) s → wpAny (model X.prog X.w) X.A (richCompare .Eq v u) Q E s) ∧ (Q (.bool false) s → wpAny (model X.prog X.w) X.A (richCompare .NotEq v u) Q E s) := by
  obtain ⟨a, b, ks, ls, rfl, rfl, ea, eb, hlen, hp⟩ := h
  obtain rfl : v = Value.ref a := rx
  obtain rfl : u = Value.ref b := ry
  have oa : ObjOk X.prog X.w H s.heap a (.dK ks) := ea.ok I.hok
  have ob : ObjOk X.prog X.w H s.heap b (.dK ls) := eb.ok I.hok
  obtain ⟨_, ya, va, ra, da⟩ := oa
  obtain ⟨_, yb, vb, rb, db⟩ := ob
  have hl : va.length = vb.length := by rw [← ra.length, ← rb.length]; exact hlen
  constructor
  · intro q
    exact PySem.W.keq_eq (knd := mixKind X.prog X.w) (r := true) ya yb da db hu (fun _ => hits_all rb ra hp) (by simpa [hl] using q)
  · intro q
    exact PySem.W.keq_ne (knd := mixKind X.prog X.w) (r := true) ya yb da db hu (fun _ => hits_all rb ra hp) (by simpa [hl] using q)
theorem op_eqDR (hu : X.A.units < cLine) : OpR X (compareOp .Eq) rEqDR := fun pins s σ H x y v u Q I rx ry h => (dsame_at I rx ry h.1 hu).1 ⟨.bl true, H, I, rfl, h.2⟩
theorem op_neDR (hu : X.A.units < cLine) : OpR X (compareOp .NotEq) rNeDR := fun pins s σ H x y v u Q I rx ry h => (dsame_at I rx ry h.1 hu).2 ⟨.bl false, H, I, rfl, h.2⟩
/-- len(d), list(d) -/
def rLenDR : List V → Hp → VK → Prop := fun xs H Q => ∃ a kvs, xs = [V.ref a] ∧ Rd H a (.dK kvs) ∧ Q (.int (kvs.length : Nat)) H
theorem call_lenDR : CallR X (.builtin "len") rLenDR := fun pins s σ H xs us Q I r ⟨a, kvs, e, ha, q⟩ => by
  subst e
  obtain ⟨u, rfl, ru⟩ := vals1 r
  cases ru
  exact d_len I ha fun t s' I' => ⟨.int kvs.length, H, I', ⟨t, rfl⟩, q⟩
def rListDR : List V → Hp → VK → Prop := fun xs H Q => ∃ a kvs, xs = [V.ref a] ∧ Rd H a (.dK kvs) ∧ ∀ q, H q = none → Q (.ref q) (upd H q (.lst (kvs.map fun kv => kV kv.1)))
theorem call_listDR (hc : X.calm = true) : CallR X (.type "list") rListDR := fun pins s σ H xs us Q I r ⟨a, kvs, e, ha, q⟩ => by
  subst e
  obtain ⟨u, rfl, ru⟩ := vals1 r
  cases ru
  have oa : ObjOk X.prog X.w H s.heap a (.dK kvs) := ha.ok I.hok
  obtain ⟨zl, lo, vs, rk, hd⟩ := oa
  obtain ⟨ep, hat⟩ := hd.dictAt
  have hl : kvs.length = vs.length := Paired.length rk
  refine PySem.W.kdl_call (PySem.W.kdl_dict (knd := mixKind X.prog X.w) (kvs := vs) (ep := ep) lo) (I.ok.hd hc) hat (by omega) fun h' tk acc c keep hS hacc => ?_
  have el : acc.toList.length = kvs.length := by rw [Array.length_toList, hacc.1, hl]
  have vals : Vals (kvs.map fun kv => kV kv.1) acc.toList := by
    refine vals_of_at (by rw [List.length_map, el]) fun j x w h1 h2 => ?_
    obtain ⟨k, y, hky, hi⟩ := hacc.2 j w (by rw [← Array.getElem?_toList]; exact h2)
    have e1 : (kvs.map (·.1))[j]? = some k := by
      have := KV.keys rk
      rw [this, List.getElem?_map, hky]; rfl
    rw [List.getElem?_map] at h1 e1
    cases e2 : kvs[j]? with
    | none => rw [e2] at e1; cases e1
    | some p =>
      rw [e2] at h1 e1
      have h1' : kV p.1 = x := Option.some.inj h1
      have e1' : p.1 = k := Option.some.inj e1
      rw [← h1', e1']
      exact relV_key hi
  exact ⟨.ref s.heap.objs.size, _, I.laid keep (Nat.le_refl _) (show ObjOk X.prog X.w _ _ _ (.lst (kvs.map fun kv => kV kv.1)) from ⟨by rw [List.length_map]; exact zl, acc.toList, c, vals, hS⟩), rfl, q _ (I.hok.fresh (Nat.le_refl _))⟩
end
end Sh

/-! Sh19: an empty dict, != of dicts. -/
namespace Sh
open PySem PySem.Spec PySem.Calls PyProof.Rows L2
theorem ev_dnew {G : Gx} {p : Bool} {b : Nat} {ds : List Sd} : EvD G p b b tDNewK ds (.dct []) := fun gs M H σ S Q k => fun q hq =>
  k _ _ _ rfl (Ext.new hq) (S.lim.upd fun _ z => nomatch z) (.dct (.inl (msk_new (S.mm p) hq)) .nil)
def rNeX (K : PySem.W.Frag) : R2 := fun x y H Q => rNeD K x y H Q ∨ rNeDR x y H Q
theorem g_neX {X : Cx} {K : PySem.W.Frag} (hK : X.K = K) {k : Nat} (hr : Room k X.A) : OpR X (compareOp .NotEq) (rNeX K) := by
  subst hK
  exact (op_neD hr.units).or (op_neDR hr.units0)
theorem o_neX {K : PySem.W.Frag} {x y : D} (hx : D.shp 64 x = true) (hy : D.shp 64 y = true) : Op2D K (rNeX K) x y (.bl (!D.eq x y)) := Op2.inl (o_ne hx hy)
theorem o_neX0 {K : PySem.W.Frag} : Op2D K (rNeX K) (.dct []) (.dct []) (.bl false) := fun N b H v u Q hN l r1 r2 k => by
  cases r1 with
  | dct ha ra =>
    cases r2 with
    | dct hb rb =>
      cases ra
      cases rb
      exact .inr ⟨⟨_, _, [], [], rfl, rfl, (rd_of ha).2, (rd_of hb).2, rfl, (fun p hp => by cases hp)⟩, k _ _ H rfl (Ext.refl H) l (.bl _)⟩
end Sh

/-! Sh20: lists of lists that nothing else knows. -/
namespace Sh
open PySem PySem.Spec PySem.Calls PyProof.Rows L2
section
variable {K : PySem.W.Frag} {H H' : Hp} {vs ws : List V} {yss zss : List (List D)} {F F2 : List Addr}
theorem RpA.flatH : ∀ {vs : List V} {ds : List D}, RpA K H vs ds → (∀ d ∈ ds, flatD d = true) → RpA K H' vs ds
  | _, _, .nil, _ => .nil
  | _, _, .cons r rr, f => .cons (r.flat (f _ List.mem_cons_self)) (RpA.flatH rr fun d hd => f d (List.mem_cons_of_mem _ hd))
theorem RowsP.mono (e : ∀ b o, H b = some o → (∀ φ, o ≠ .ext φ) → H' b = some o) : ∀ {vs yss F}, RowsP K H vs yss F → RowsP K H' vs yss F
  | _, _, _, .nil => .nil
  | _, _, _, .cons h r f q => .cons (e _ _ h fun _ z => nomatch z) r f (RowsP.mono e q)
theorem RowsP.ext (e : Ext H H') (h : RowsP K H vs yss F) : RowsP K H' vs yss F := h.mono e.keep
theorem RowsP.app : ∀ {vs yss F}, RowsP K H vs yss F → RowsP K H ws zss F2 → RowsP K H (vs ++ ws) (yss ++ zss) (F ++ F2)
  | _, _, _, .nil, q => q
  | _, _, _, .cons h r f p, q => .cons h r f (RowsP.app p q)
theorem RowsP.len : ∀ {vs yss F}, RowsP K H vs yss F → vs.length = yss.length ∧ F.length = yss.length
  | _, _, _, .nil => ⟨rfl, rfl⟩
  | _, _, _, .cons h r f q => ⟨congrArg (· + 1) (RowsP.len q).1, congrArg (· + 1) (RowsP.len q).2⟩
theorem RowsP.upd {c : Addr} {o : HO} : ∀ {vs yss F}, RowsP K H vs yss F → c ∉ F → RowsP K (upd H c o) vs yss F
  | _, _, _, .nil, _ => .nil
  | _, _, _, .cons h r f q, n => .cons (by rw [upd_ne (fun z => n (by rw [← z]; exact List.mem_cons_self))]; exact h) r f (RowsP.upd q fun z => n (List.mem_cons_of_mem _ z))
theorem RowsP.live : ∀ {vs yss F}, RowsP K H vs yss F → ∀ c ∈ F, H c ≠ none
  | _, _, _, .nil, c, z => by cases z
  | _, _, _, .cons h r f q, c, z => by
    rcases List.mem_cons.mp z with e | z
    · rw [e, h]; exact fun z => nomatch z
    · exact RowsP.live q c z
theorem RowsP.rpa {N : Addr → Prop} : ∀ {vs yss F}, RowsP K H vs yss F → (∀ c ∈ F, ¬ N c) → RpA K (msk N H) vs (yss.map .lst)
  | _, _, _, .nil, _ => .nil
  | _, _, _, .cons h r f q, n => .cons (.lst (by rw [msk_no (n _ List.mem_cons_self)]; exact h) (RpA.flatH r f)) (RowsP.rpa q fun c hc => n c (List.mem_cons_of_mem _ hc))
theorem RowsP.at : ∀ {vs yss F} {k : Nat} {ys : List D}, RowsP K H vs yss F → yss[k]? = some ys → ∃ b ws, F[k]? = some b ∧ vs[k]? = some (.ref b) ∧ H b = some (.lst ws) ∧ RpA K (fun _ => none) ws ys ∧ ∀ y ∈ ys, flatD y = true
  | _, _, _, k, ys, .nil, h => by simp at h
  | _, _, _, 0, ys, .cons h r f q, e => by simp at e; subst e; exact ⟨_, _, rfl, rfl, h, r, f⟩
  | _, _, _, k + 1, ys, .cons h r f q, e => by
    obtain ⟨b, ws, h1, h2, h3⟩ := RowsP.at (k := k) q (by simpa using e)
    exact ⟨b, ws, by simpa using h1, by simpa using h2, h3⟩
theorem RowsP.set {b : Addr} {ws' : List V} {ys' : List D} (r' : RpA K (fun _ => none) ws' ys') (f' : ∀ y ∈ ys', flatD y = true) : ∀ {vs yss F} {k : Nat}, RowsP K H vs yss F → F.Nodup → F[k]? = some b → RowsP K (L2.upd H b (.lst ws')) vs (yss.set k ys') F
  | _, _, _, k, .nil, _, h => by simp at h
  | _, _, _, 0, .cons h r f q, nd, e => by
    simp at e; subst e
    exact .cons upd_same r' f' (q.upd (List.nodup_cons.mp nd).1)
  | _, _, _, k + 1, .cons (b := c) h r f q, nd, e => by
    have e : _ := (show _ = _ by simpa using e)
    have hm := List.mem_of_getElem? e
    refine .cons ?_ r f (RowsP.set r' f' q (List.nodup_cons.mp nd).2 e)
    show (L2.upd H b (.lst ws')) c = _
    rw [upd_ne (fun z => (List.nodup_cons.mp nd).1 (by rw [z]; exact hm))]
    exact h
end
end Sh
namespace Sh
open PySem PySem.Spec PySem.Calls PyProof.Rows L2
theorem at_un {σ : List (Option V)} {ds : List Sd} {j i : Nat} {c : Addr} (h : At σ (ds.set j .un) i c) : At σ ds i c := by
  obtain ⟨s, e, g1, g2, g3⟩ := h
  by_cases hj : j = i
  · subst hj
    have hlt : j < ds.length := by simpa using (List.getElem?_eq_some_iff.mp g2).1
    rw [List.getElem?_set_self hlt] at g2
    cases g2
    cases g3
  · rw [List.getElem?_set_ne hj] at g2
    exact ⟨s, e, g1, g2, g3⟩
/-- the slot is not known any more -/
theorem Stt.unk {K : PySem.W.Frag} {H0 H : Hp} {M0 M : Addr → Prop} {b : Nat} {σ : List (Option V)} {ds : List Sd} {gs : List (V × D)} (S : Stt K H0 M0 gs M b H σ ds) (j : Nat) : Stt K H0 M0 gs M b H σ (ds.set j .un) := by
  by_cases hj : j < σ.length
  · have q := S.forget j σ[j]
    rw [List.set_getElem_self] at q
    exact q
  · have e : ds.set j .un = ds := List.set_eq_of_length_le (by rw [← S.len]; omega)
    rw [e]; exact S
def EvO2 (G : Gx) (b b' : Nat) (te : TE) (ds : List Sd) (R : List (List D) → Prop) : Prop := ∀ gs M H σ, G.st gs M b H σ ds → ∀ Q : VK,
  (∀ a vs yss F H', R yss → Ext H H' → Lim b' H' → H a = none → (∀ c ∈ F, H c = none) → (a :: F).Nodup → H' a = some (.lst vs) → RowsP G.K H' vs yss F → Q (.ref a) H') → te σ H Q
section
variable {G : Gx} {p : Bool} {b b' b1 b2 : Nat} {te ta tb : TE} {t tk : TA} {ds : List Sd} {R : List (List D) → Prop} {F : Fd} {n m : Nat} {E : L2.St → XK} {es fs : List D}
theorem EvO2.evs (h : EvO2 G b b' te ds R) : EvS G p b b' te ds (fun d => ∃ yss, d = .lst (yss.map .lst) ∧ R yss) := fun gs M H σ S Q k =>
  h gs M H σ S Q fun a vs yss F H' r e l hn hF nd ha rows => by
    have nM : ∀ c, H c = none → ¬ mmk p M G.M0 c := fun c hc z => S.mm p c z hc
    exact k _ _ H' ⟨yss, rfl, r⟩ e l (.lst (by rw [msk_no (nM a hn)]; exact ha) (rows.rpa fun c hc => nM c (hF c hc)))
theorem eo2_lc {wi : TI} {g : TG} {vs : List Nat} {it : Nat → D} (f : Nat → List D) (hi : EvI G b b' wi ds n it) (hn : n ≤ 100000) (hf : ∀ i y, i < n → y ∈ f i → flatD y = true)
    (hs : ∀ i, i < n → ∃ ds'', TgR G.K vs g (it i) (wipeD ds vs) ds'' ∧ ∀ b0, EoD G b0 b0 te ds'' (f i)) : EvO2 G b b' (tLc wi g tYes te vs) ds (fun yss => yss = (List.range n).map f) := fun gs M H σ S Q k =>
  hi gs M H σ S _ fun J gs' H1 e l hg ok => fun D hD => by
    have S1 : Stt G.K G.H0 G.M0 (gs' ++ gs) M b' H1 σ ds := (S.step e l).ghosts hg
    have ww : ∀ σ : List (Option V), L2.wipe (L2.wipe σ vs) vs = L2.wipe σ vs := fun σ => by
      have main : ∀ ws : List Nat, (∀ v ∈ ws, v ∈ vs) → L2.wipe (L2.wipe σ ws) vs = L2.wipe σ vs := fun ws => by
        induction ws with
        | nil => intro _; rfl
        | cons v ws ih =>
          intro hv
          show L2.wipe ((L2.wipe σ ws).set v none) vs = L2.wipe σ vs
          rw [wipe_in _ _ _ _ (hv v List.mem_cons_self), ih fun u hu => hv u (List.mem_cons_of_mem _ hu)]
      exact main vs fun _ h => h
    refine ⟨fun i m H => m = n - i ∧ i ≤ n ∧ ∃ acc F, Ext H1 H ∧ Lim b' H ∧ H D = some (.lst acc) ∧ RowsP G.K H acc ((List.range i).map f) F ∧ (∀ c ∈ F, H1 c = none) ∧ (D :: F).Nodup, ⟨n, by omega, Nat.zero_le _, [], [], Ext.new hD, S1.lim.upd (fun _ z => nomatch z), upd_same, .nil, (fun c z => by cases z), List.nodup_cons.mpr ⟨(fun z => by cases z), List.nodup_nil⟩⟩, ?_⟩
    rintro i m H2 ⟨rfl, hin, acc, F, e2, l2, hacc, racc, hF, nd⟩
    have S2 : Stt G.K G.H0 G.M0 (gs' ++ gs) (fun a => M a ∨ a = D) b' H2 σ ds := S1.grow hD e2 l2 (by rw [hacc]; exact fun z => nomatch z)
    by_cases hlt : i < n
    · refine .inr ⟨ok.go i _ H2 S2.gh' hlt, fun H => ∃ acc F, Ext H1 H ∧ Lim b' H ∧ H D = some (.lst acc) ∧ RowsP G.K H acc ((List.range (i + 1)).map f) F ∧ (∀ c ∈ F, H1 c = none) ∧ (D :: F).Nodup, fun H' z => ⟨n - (i + 1), by omega, rfl, hlt, z⟩, fun x H3 y => ?_⟩
      obtain ⟨x1, x2, x3⟩ := ok.yld i _ H2 S2.gh' hlt x H3 y
      obtain ⟨ds'', t1, t2⟩ := hs i hlt
      have S3 := (S2.step x1 (x2 _ S2.lim)).wipe vs
      refine t1 _ _ _ _ _ H3 _ x S3 x3 _ fun σ4 S4 ew => ⟨by rw [ew]; exact ww σ, ?_⟩
      show te σ4 H3 _
      refine t2 b' _ _ H3 σ4 S4 _ fun a ws xs H5 r5 e5 l5 hn5 ha5 rr5 => ?_
      subst r5
      have e25 := x1.trans e5
      have hacc3 : H3 D = some (.lst acc) := x1.keep _ _ hacc fun _ z => nomatch z
      have hacc5 : H5 D = some (.lst acc) := e5.keep _ _ hacc3 fun _ z => nomatch z
      have haD : a ≠ D := fun z => by rw [z, hacc3] at hn5; cases hn5
      have haF : a ∉ F := fun z => (racc.ext x1).live a z hn5
      have len : acc.length ≤ n := by
        rw [racc.len.1, List.length_map, List.length_range]
        exact hin
      have nD := (List.nodup_cons.mp nd).1
      have nF := (List.nodup_cons.mp nd).2
      refine ⟨acc, hacc5, Nat.lt_of_le_of_lt (Nat.le_trans len hn) (by decide), acc ++ [.ref a], F ++ [a], (e2.trans e25).mut hD, l5.upd (fun _ z => nomatch z), upd_same, ?_, fun c hc => ?_, ?_⟩
      · rw [List.range_succ, List.map_append]
        exact ((racc.ext e25).upd nD).app (.cons (by rw [upd_ne haD]; exact ha5) (RpA.flatH rr5 fun y hy => hf i y hlt hy) (fun y hy => hf i y hlt hy) .nil)
      · rcases List.mem_append.mp hc with hc | hc
        · exact hF c hc
        · rw [List.mem_singleton.mp hc]; exact e2.free (x1.free hn5)
      · refine List.nodup_cons.mpr ⟨fun z => ?_, ?_⟩
        · rcases List.mem_append.mp z with z | z
          · exact nD z
          · exact haD (List.mem_singleton.mp z).symm
        · refine List.nodup_append.mpr ⟨nF, List.nodup_cons.mpr ⟨(fun z => by cases z), List.nodup_nil⟩, fun x hx y hy z => ?_⟩
          rw [List.mem_singleton.mp hy] at z
          exact haF (by rw [← z]; exact hx)
    · have en : i = n := by omega
      subst en
      refine .inl ⟨ok.stop _ H2 S2.gh', ?_⟩
      exact k D acc _ F H2 rfl (e.trans e2) l2 (e.free hD) (fun c hc => e.free (hF c hc)) nd hacc racc
/-- f(e, .., k = v) -/
theorem eo2_calK {z : D} (ha : EaD G true b b1 t ds es) (hk : EaD G true b1 b2 tk ds fs) (h : Cal F (es ++ fs) z) (hn : es.length = n) (hm : fs.length = m) (ho : F.own = true := by rfl) (ho2 : F.own2 = 1 := by rfl) : EvO2 G b b2 (tCl n m (SpD G.K F) (fun vs zs => vs ++ zs) E t tk) ds (fun yss => D.lst (yss.map .lst) = z) := fun gs M H σ S Q k =>
  ha gs M H σ S _ fun vs es' H1 r1 e1 l1 rp1 => hk gs M H1 σ (S.step e1 l1) _ fun zs fs' H2 r2 e2 l2 rp2 => by
    subst r1 r2
    have S2 := (S.step e1 l1).step e2 l2
    refine ⟨by rw [rp1.length, hn], by rw [rp2.length, hm], es' ++ fs', M, b2, S2.liv, l2.mono (by rw [h.cost, Nat.zero_add]; exact Nat.le_refl _), (rp1.mono (msk_mono e2.toKp)).append rp2, h.n, h.dom, fun v d H3 rd e3 l3 rp3 o => ?_, fun C dd fsV x H3 rx => absurd rx (h.exn C x)⟩
    have o := o ho
    rw [ho2] at o
    obtain ⟨a, ws, yss, F', rfl, rfl, q1, q2, q3, q4, q5⟩ := o
    have e12 := e1.trans e2
    exact k a ws yss F' H3 (h.res _ rd) (e12.trans e3) l3 (e12.free q1) (fun c hc => e12.free (q2 c hc)) q3 q4 q5
end
/-! ### while slot i holds such a list -/
structure Ow2 (G : Gx) (M : Addr → Prop) (F : List Addr) (H : Hp) (σ : List (Option V)) (ds : List Sd) (i : Nat) (a : Addr) (vs : List V) (yss : List (List D)) : Prop where
  un : ds[i]? = some .un
  at_ : σ[i]? = some (some (V.ref a))
  all : ∀ c ∈ a :: F, M c ∧ ¬ G.M0 c
  nd : (a :: F).Nodup
  ha : H a = some (.lst vs)
  rows : RowsP G.K H vs yss F
  no : ∀ c ∈ a :: F, ∀ j, ¬ At σ ds j c
def W2 (G : Gx) (b : Nat) (ts : TS) (i : Nat) (yss : List (List D)) (ds : List Sd) (E : DE) : Prop := ∀ gs M F H σ a vs, G.st gs M b H σ ds → Ow2 G M F H σ ds i a vs yss → ∀ Dn : Ends, Wants G gs E Dn → ts Dn σ H
section
variable {G : Gx} {p : Bool} {b b' b1 b2 : Nat} {te ta tb : TE} {tt : TT} {t u rest : TS} {ds : List Sd} {R : List (List D) → Prop} {E : DE} {i j : Nat} {yss : List (List D)} {gs : List (V × D)} {M : Addr → Prop} {F : List Addr} {H H' : Hp} {σ : List (Option V)} {a : Addr} {vs : List V}
theorem Ow2.step (O : Ow2 G M F H σ ds i a vs yss) (e : Ext H H') : Ow2 G M F H' σ ds i a vs yss := ⟨O.un, O.at_, O.all, O.nd, e.keep _ _ O.ha (fun _ z => nomatch z), O.rows.ext e, O.no⟩
theorem Ow2.thaw (O : Ow2 G M F H σ ds i a vs yss) (S : G.st gs M b H σ ds) : ∃ M', (∀ c, M' c → M c) ∧ G.st gs M' b H σ (ds.set i (.dat (.lst (yss.map .lst)))) := by
  have hs : Kp (msk M H) (msk (fun c => M c ∧ c ∉ a :: F) H) := msk_sub fun c h => h.1
  have hi : i < ds.length := (List.getElem?_eq_some_iff.mp O.un).1
  have other : ∀ (j : Nat) (c : Addr), At σ ds j c → c ∉ a :: F := fun j c h z => O.no c z j h
  refine ⟨fun c => M c ∧ c ∉ a :: F, fun c h => h.1, S.ext, fun c h => ⟨S.m0 c h, fun z => (O.all c z).2 h⟩, fun c h n => S.new c h.1 n, fun c h => S.liv c h.1, S.lim, by rw [List.length_set]; exact S.len, fun j s e h1 h2 => ?_, fun j k c h1 h2 => ?_, fun j c h1 => ?_, fun q hq => (S.gh q hq).mono hs⟩
  · by_cases hj : i = j
    · subst hj
      rw [O.at_] at h1
      cases h1
      rw [List.getElem?_set_self hi] at h2
      cases h2
      exact ⟨_, rfl, .lst (by rw [msk_no fun z => z.2 List.mem_cons_self]; exact O.ha) (O.rows.rpa fun c hc z => z.2 (List.mem_cons_of_mem _ hc))⟩
    · rw [List.getElem?_set_ne hj] at h2
      exact (S.sl j s e h1 h2).chg hs (fun c hc m => ⟨m, other j c ⟨s, e, h1, h2, hc⟩⟩) fun c o _ ho _ => ho
  · rcases at_setD O.at_ h1 with ⟨_, h1⟩ | ⟨_, h1⟩
    · cases h1
    · rcases at_setD O.at_ h2 with ⟨_, h2⟩ | ⟨_, h2⟩
      · cases h2
      · exact S.inj j k c h1 h2
  · rcases at_setD O.at_ h1 with ⟨_, h1⟩ | ⟨_, h1⟩
    · cases h1
    · exact S.ownNew j c h1
theorem w2_start (h : EvO2 G b b' te ds R) (hi : i < ds.length) (k : ∀ yss, R yss → W2 G b' u i yss (ds.set i .un) E) : Wt G b (tSeq (tAsg te (gName i)) u) ds E := fun gs M H σ S Dn w =>
  h gs M H σ S _ fun a vs yss F H' r e l hn hF nd ha rows => by
    have hall : ∀ c, c ∈ a :: F → H c = none := fun c hc => by
      rcases List.mem_cons.mp hc with z | z
      · rw [z]; exact hn
      · exact hF c z
    have S2 := (S.growP (P := fun c => c ∈ a :: F) hall e l fun c hc => by
      rcases List.mem_cons.mp hc with z | z
      · rw [z, ha]; exact fun z => nomatch z
      · exact rows.live c z).forget i (some (.ref a))
    refine k yss r gs _ F H' _ a vs S2 ⟨List.getElem?_set_self hi, List.getElem?_set_self (by rw [S.len]; exact hi), fun c hc => ⟨.inr hc, fun z => S.liv c (S.m0 c z) (hall c hc)⟩, nd, ha, rows, fun c hc j h1 => ?_⟩ Dn w
    rcases at_set h1 with ⟨_, h1⟩ | ⟨_, h1⟩
    · cases h1
    · exact S.liv c (S.atM h1) (hall c hc)
theorem w2_if (h : EtD G b b1 tt (ds.set i (.dat (.lst (yss.map .lst)))) false) (k : W2 G b1 rest i yss ds E) : W2 G b (tSeq (tIfS tt t tNext) rest) i yss ds E := fun gs M F H σ a vs S O Dn w => by
  obtain ⟨M', _, S'⟩ := O.thaw S
  refine h gs M' H σ S' _ fun v H' r e l => ?_
  subst r
  exact k gs M F H' σ a vs (S.step e l) (O.step e) Dn w
theorem w2_thaw (h : Wt G b t (ds.set i (.dat (.lst (yss.map .lst)))) E) : W2 G b t i yss ds E := fun gs M F H σ a vs S O Dn w => by
  obtain ⟨M', _, S'⟩ := O.thaw S
  exact h gs M' H σ S' Dn w
theorem w2_own {xs : List D} (hj : j ≠ i) (h : EoD G b b1 te (ds.set i (.dat (.lst (yss.map .lst)))) xs) (hf : ∀ x ∈ xs, flatD x = true) (k : W2 G b1 rest i yss (ds.set j (.own xs)) E) : W2 G b (tSeq (tAsg te (gName j)) rest) i yss ds E := fun gs M F H σ a vs S O Dn w => by
  obtain ⟨M', _, S'⟩ := O.thaw S
  refine h gs M' H σ S' _ fun p ws xs' H' r e l hn hp rr => ?_
  subst r
  have S2 := S.adopt (i := j) hn e l hp (RpA.flatH rr hf)
  refine k gs _ F H' _ a vs S2 ⟨by rw [List.getElem?_set_ne hj]; exact O.un, by rw [List.getElem?_set_ne hj]; exact O.at_, fun c hc => ⟨.inl (O.all c hc).1, (O.all c hc).2⟩, O.nd, e.keep _ _ O.ha (fun _ z => nomatch z), O.rows.ext e, fun c hc j' h1 => ?_⟩ Dn w
  rcases at_set h1 with ⟨_, h1⟩ | ⟨_, h1⟩
  · cases h1
    exact absurd hn (S.liv _ (O.all _ hc).1)
  · exact O.no c hc j' h1
theorem w2_retCat (h : EvO2 G b b' tb ds R) (hl : ∀ zss, R zss → yss.length + zss.length ≤ 100000) (k : ∀ zss, R zss → E.rt (.lst ((yss ++ zss).map .lst)) ds b') (ho : E.ro2 = 1 := by rfl) : W2 G b (tRet (tOp (rAddA G.K) (tVar i) tb)) i yss ds E := fun gs M F H σ a vs S O Dn w => by
  refine ⟨.ref a, O.at_, ?_⟩
  refine h gs M H σ S _ fun a2 ws zss F2 H' r e l hn hF nd ha2 rows2 => ?_
  have O' := O.step e
  have l1 := O'.rows.len.1
  have l2 := rows2.len.1
  refine .inr (.inr (.inl ⟨a, a2, vs, ws, rfl, rfl, O'.ha, ha2, by rw [l1, l2]; exact Nat.le_trans (hl zss r) (by decide), fun q hq => ?_⟩))
  have e2 : Ext H' (upd H' q (.lst (vs ++ ws))) := Ext.new hq
  have S' := (S.step e l).step e2 (l.upd fun _ z => nomatch z)
  have rw1 : RowsP G.K (upd H' q (.lst (vs ++ ws))) (vs ++ ws) (yss ++ zss) (F ++ F2) := (O'.rows.app rows2).ext e2
  have n1 : ∀ c ∈ F, ¬ G.M0 c := fun c hc => (O.all c (List.mem_cons_of_mem _ hc)).2
  have n2 : ∀ c ∈ F2, ¬ G.M0 c := fun c hc z => S.liv c (S.m0 c z) (hF c hc)
  have n3 : ∀ c ∈ F ++ F2, ¬ G.M0 c := fun c hc => (List.mem_append.mp hc).elim (n1 c) (n2 c)
  have nq : ¬ G.M0 q := fun z => e.dom q (S.liv q (S.m0 q z)) hq
  refine w.rt M b' _ σ ds (.ref q) _ S' (k zss r) (.lst (by rw [msk_no nq]; exact upd_same) (rw1.rpa n3)) fun _ => ?_
  rw [ho]
  refine ⟨q, vs ++ ws, yss ++ zss, F ++ F2, rfl, rfl, (S.ext.trans e).free hq, fun c hc => ?_, ?_, upd_same, rw1⟩
  · rcases List.mem_append.mp hc with hc | hc
    · exact S.new c (O.all c (List.mem_cons_of_mem _ hc)).1 (n1 c hc)
    · exact S.ext.free (hF c hc)
  · refine List.nodup_cons.mpr ⟨fun z => ?_, List.nodup_append.mpr ⟨(List.nodup_cons.mp O.nd).2, (List.nodup_cons.mp nd).2, fun x hx y hy z => ?_⟩⟩
    · rcases List.mem_append.mp z with z | z
      · exact O'.rows.live q z hq
      · exact rows2.live q z hq
    · rw [z] at hx
      exact O.rows.live y hx (hF y hy)
theorem w2_app0 (hl : yss.length < 100000) (k : W2 G b rest i (yss ++ [[]]) ds E) : W2 G b (tSeq (tDrop (tBM G.K "list" rAppend (tVar i) (tCons (tLst tNil) tNil))) rest) i yss ds E := fun gs M F H σ a vs S O Dn w => by
  refine ⟨.ref a, O.at_, .inl ⟨rfl, vs, SqL.of O.ha⟩, ?_⟩
  refine ⟨Nat.zero_le _, fun p hp => ?_⟩
  have hap : a ≠ p := fun z => by have q := O.ha; rw [z, hp] at q; cases q
  have hpF : p ∉ F := fun z => O.rows.live p z hp
  have ha2 : (upd H p (.lst [])) a = some (.lst vs) := by rw [upd_ne hap]; exact O.ha
  refine ⟨a, vs, .ref p, rfl, rfl, ha2, by rw [O.rows.len.1]; exact Nat.lt_of_lt_of_le hl (by decide), ?_⟩
  have S2 := S.growP (P := fun c => c = p) (fun c hc => by rw [hc]; exact hp) (Ext.new (o := .lst []) hp) (S.lim.upd fun _ z => nomatch z) (fun c hc => by rw [hc, upd_same]; exact fun z => nomatch z)
  have S3 := S2.updM (D := a) (o := .lst (vs ++ [.ref p])) (.inl (O.all a List.mem_cons_self).1) (O.all a List.mem_cons_self).2 (fun _ z => nomatch z) (O.no a List.mem_cons_self)
  have nF := (List.nodup_cons.mp O.nd).1
  refine k gs _ (F ++ [p]) _ σ a (vs ++ [.ref p]) S3 ⟨O.un, O.at_, fun c hc => ?_, ?_, upd_same, ?_, fun c hc j h1 => ?_⟩ Dn w
  · rcases List.mem_cons.mp hc with z | z
    · rw [z]; exact ⟨.inl (O.all a List.mem_cons_self).1, (O.all a List.mem_cons_self).2⟩
    · rcases List.mem_append.mp z with z | z
      · exact ⟨.inl (O.all c (List.mem_cons_of_mem _ z)).1, (O.all c (List.mem_cons_of_mem _ z)).2⟩
      · rw [List.mem_singleton.mp z]; exact ⟨.inr rfl, fun q => S.liv p (S.m0 p q) hp⟩
  · refine List.nodup_cons.mpr ⟨fun z => ?_, List.nodup_append.mpr ⟨(List.nodup_cons.mp O.nd).2, List.nodup_cons.mpr ⟨(fun z => by cases z), List.nodup_nil⟩, fun x hx y hy z => ?_⟩⟩
    · rcases List.mem_append.mp z with z | z
      · exact nF z
      · exact hap (List.mem_singleton.mp z)
    · rw [List.mem_singleton.mp hy] at z
      exact hpF (by rw [← z]; exact hx)
  · refine RowsP.upd (((O.rows.ext (Ext.new hp)).app (.cons upd_same .nil (fun y hy => by cases hy) .nil))) fun z => ?_
    rcases List.mem_append.mp z with z | z
    · exact nF z
    · exact hap (List.mem_singleton.mp z)
  · rcases List.mem_cons.mp hc with z | z
    · rw [z] at h1; exact O.no a List.mem_cons_self j h1
    · rcases List.mem_append.mp z with z | z
      · exact O.no c (List.mem_cons_of_mem _ z) j h1
      · rw [List.mem_singleton.mp z] at h1
        exact S.liv p (S.atM h1) hp
theorem set_mid {α : Type} (f : α → α) (xs : List α) (t : Nat) (h : t < xs.length) : ((xs.take t).map f ++ xs.drop t).set t (f xs[t]) = (xs.take (t + 1)).map f ++ xs.drop (t + 1) := by
  rw [List.set_append_right _ _ (by simp; omega)]
  rw [List.length_map, List.length_take, Nat.min_eq_left (Nat.le_of_lt h), Nat.sub_self, List.drop_eq_getElem_cons h, List.set_cons_zero, List.take_succ, List.getElem?_eq_getElem h, List.map_append, List.append_assoc]
  rfl
theorem w2_appAll {n : Int} (hj : j ≠ i) (hjl0 : j < ds.length) (hl : ∀ ys ∈ yss, ys.length < 100000) (hf : ∀ ys ∈ yss, ∀ y ∈ ys, flatD y = true) (k : W2 G b rest i (yss.map (· ++ [.int n])) (ds.set j .un) E) :
    W2 G b (tSeq (tFor (iList G.K (tVar i)) (gName j) (tDrop (tBM G.K "list" rAppend (tVar j) (tCons (tC (.int n)) tNil)))) rest) i yss ds E := fun gs M F H σ a vs S O Dn w => by
  have un2 : (ds.set j .un)[i]? = some .un := by rw [List.getElem?_set_ne hj]; exact O.un
  refine ⟨.ref a, O.at_, a, rfl, ⟨vs, SqL.of O.ha⟩, ?_⟩
  refine ⟨fun t m σ' H' => m = yss.length - t ∧ t ≤ yss.length ∧ G.st gs M b H' σ' (ds.set j .un) ∧ Ow2 G M F H' σ' (ds.set j .un) i a vs ((yss.take t).map (· ++ [.int n]) ++ yss.drop t), ⟨yss.length, by omega, Nat.zero_le _, S.unk j, un2, O.at_, O.all, O.nd, O.ha, by simpa using O.rows, fun c hc j' h1 => O.no c hc j' (at_un h1)⟩, ?_⟩
  rintro t m σ' H2 ⟨rfl, ht, S2, O2⟩
  have ly : ((yss.take t).map (· ++ [D.int n]) ++ yss.drop t).length = yss.length := by simp; omega
  have lv : vs.length = yss.length := by rw [O2.rows.len.1, ly]
  by_cases hlt : t < yss.length
  · have hvt : vs[t]? = some vs[t] := List.getElem?_eq_getElem (by omega)
    refine .inr ⟨⟨vs, vs[t], SqL.of O2.ha, hvt⟩, fun σ' H' => G.st gs M b H' σ' (ds.set j .un) ∧ Ow2 G M F H' σ' (ds.set j .un) i a vs ((yss.take (t + 1)).map (· ++ [.int n]) ++ yss.drop (t + 1)), fun σ' H' z => ⟨yss.length - (t + 1), by omega, rfl, hlt, z⟩, fun x H3 y => ?_⟩
    obtain ⟨e1, e2⟩ := y
    subst e1
    have hx := e2 _ (SqL.of O2.ha)
    have hyt : ((yss.take t).map (· ++ [D.int n]) ++ yss.drop t)[t]? = some yss[t] := by
      rw [List.getElem?_append_right (by simp; omega)]
      simp [hlt, Nat.min_eq_left (Nat.le_of_lt hlt)]
    obtain ⟨b0, ws, f1, f2, f3, f4, f5⟩ := O2.rows.at hyt
    rw [f2] at hx
    have hx := Option.some.inj hx
    subst hx
    have hm := List.mem_of_getElem? f1
    have hall := O2.all b0 (List.mem_cons_of_mem _ hm)
    have hba : b0 ≠ a := fun z => (List.nodup_cons.mp O2.nd).1 (by rw [← z]; exact hm)
    have hys : yss[t] ∈ yss := List.getElem_mem hlt
    have hjσ : j < σ'.length := by rw [S2.len, List.length_set]; exact hjl0
    show (tDrop (tBM G.K "list" rAppend (tVar j) (tCons (tC (.int n)) tNil))) _ (σ'.set j (some (.ref b0))) H3
    · refine ⟨.ref b0, List.getElem?_set_self hjσ, .inl ⟨rfl, ws, SqL.of f3⟩, ?_⟩
      refine ⟨b0, ws, .int n, rfl, rfl, f3, by rw [f4.length]; exact Nat.lt_of_lt_of_le (hl _ hys) (by decide), ?_⟩
      have S3 := S2.forget j (some (.ref b0))
      rw [List.set_set] at S3
      have hno : ∀ c ∈ a :: F, ∀ j', ¬ At (σ'.set j (some (V.ref b0))) (ds.set j Sd.un) j' c := fun c hc j' h1 => by
        rcases at_set h1 with ⟨_, h1⟩ | ⟨_, h1⟩
        · cases h1
        · exact O2.no c hc j' (by
            obtain ⟨s, e, g1, g2, g3⟩ := h1
            by_cases hjj : j = j'
            · subst hjj; exact absurd rfl (by assumption)
            · exact ⟨s, e, g1, by rw [List.getElem?_set_ne hjj]; exact g2, g3⟩)
      have S4 := S3.updM (D := b0) (o := .lst (ws ++ [.int n])) hall.1 hall.2 (fun _ z => nomatch z) (hno b0 (List.mem_cons_of_mem _ hm))
      refine ⟨S4, un2, by rw [List.getElem?_set_ne hj]; exact O2.at_, O2.all, O2.nd, by rw [upd_ne (Ne.symm hba)]; exact O2.ha, ?_, hno⟩
      have q := RowsP.set (ws' := ws ++ [.int n]) (ys' := yss[t] ++ [.int n]) (f4.append (.cons (.int n) .nil)) (fun y hy => by
        rcases List.mem_append.mp hy with hy | hy
        · exact hf _ hys y hy
        · rw [List.mem_singleton.mp hy]; rfl) O2.rows (List.nodup_cons.mp O2.nd).2 f1
      rw [set_mid (fun ys : List D => ys ++ [D.int n]) yss t hlt] at q
      exact q
  · have et : t = yss.length := by omega
    subst et
    refine .inl ⟨⟨vs, SqL.of O2.ha, Nat.le_of_eq lv⟩, ?_⟩
    have q : (yss.take yss.length).map (· ++ [D.int n]) ++ yss.drop yss.length = yss.map (· ++ [D.int n]) := by simp
    rw [q] at O2
    exact k gs M F H2 σ' a vs S2 O2 Dn w
end
end Sh
namespace Sh
open PySem PySem.Spec PySem.Calls PyProof.Rows L2
theorem eo_cal {G : Gx} {b b1 n : Nat} {t : TA} {ds : List Sd} {F : Fd} {E : L2.St → XK} {es xs : List D} (ha : EaD G true b b1 t ds es) (h : Cal F es (.lst xs)) (hn : es.length = n) (ho : F.own = true := by rfl) (ho2 : F.own2 = 0 := by rfl) :
    EoD G b b1 (tCl n 0 (SpD G.K F) (fun vs _ => vs) E t tNil) ds xs := eos_cl (c := 0) ha ho h.n h.dom (by rw [h.cost]; exact Nat.le_refl _) (fun d q => ⟨xs, h.res d q, rfl⟩) h.exn hn (by omega) ho2
theorem eo_lc1 {G : Gx} {b b' : Nat} {wi : TI} {g : TG} {te : TE} {vs : List Nat} {ds : List Sd} {n : Nat} {it : Nat → D} (f : Nat → D) (hi : EvI G b b' wi ds n it) (hn : n ≤ 100000)
    (hs : ∀ i, i < n → ∃ ds'', TgR G.K vs g (it i) (wipeD ds vs) ds'' ∧ ∀ b0, EvD G true b0 b0 te ds'' (f i)) : EoD G b b' (tLc wi g tYes te vs) ds ((List.range n).map f) := by
  refine eos_lc 0 (fun i acc => acc = (List.range i).map f) hi hn rfl ?_ ?_ ?_ (by omega)
  · intro i acc hlt e
    obtain ⟨ds'', t1, t2⟩ := hs i hlt
    refine ⟨ds'', t1, fun b0 => ⟨true, et_yes, fun h => (t2 b0).imp fun d ed => ?_, fun h => nomatch h⟩⟩
    rw [ed, e, List.range_succ, List.map_append]
    rfl
  · intro acc e
    rw [e, List.length_map, List.length_range]
    exact Nat.le_refl _
  · intro i acc e
    rw [e, List.length_map, List.length_range]
    exact Nat.le_refl _
end Sh

/-! Sh21: exceptions that are caught and kept. -/
namespace Sh
open PySem PySem.Spec PySem.Calls PyProof.Rows L2
/-- an exception that is known to the letter -/
def EX (oe : Obj) (a : Addr) : HO := .frz oe (.ext fun h => h.get? a = some oe)
theorem ex_ok {P : Program} {w : World} {H : Hp} {h : Heap} {a : Addr} {oe : Obj} (e : h.get? a = some oe) : ObjOk P w H h a (EX oe a) := ⟨e, e, ⟨oe, e⟩, fun h1 h2 z k => k _ z⟩
section
variable {X : Cx} {pins : List (Addr × Obj)} {σ : L2.St} {H : Hp} {s sI : Shared} {a : Addr} {oe : Obj}
theorem Inv.keepE (J : Inv X pins σ H sI) (J4 : Inv X pins σ H s) (hn : sI.heap.get? a = none) (ha : H a = none) (hx : X.ex = []) (he : s.heap.get? a = some oe) : Inv X pins σ (upd H a (EX oe a)) s := by
  have n0 : ∀ b o, X.s_0.heap.get? b = some o → b ≠ a := fun b o e z => by
    obtain ⟨o', e'⟩ := J.base.there b o e (by rw [hx]; exact fun z => nomatch z)
    rw [z, hn] at e'; cases e'
  have hne : ∀ {b : Addr} {u : HO}, H b = some u → b ≠ a := fun {b u} e z => by rw [z, ha] at e; cases e
  have nL : X.env.locals ≠ a := fun z => by
    obtain ⟨m, ⟨o, _, _, e, _⟩, _⟩ := J.loc
    rw [z, hn] at e; cases e
  have nC : ∀ x c, X.env.cells.lookup x = some c → c ≠ a := fun x c e z => by
    obtain ⟨v, o, e', _⟩ := J.cell x c e
    rw [z, hn] at e'; cases e'
  refine ⟨J4.ok, J4.os, J4.bare, ⟨J4.base.keep, J4.base.slot, fun b o e n hx' => ?_, J4.base.there, fun b xs e => ?_, fun b o u e => ?_, fun b ps e => ?_⟩, J4.loc, J4.cell, by rw [upd_ne nL]; exact J4.free, fun x c e => by rw [upd_ne (nC x c e)]; exact J4.freeC x c e, fun p hp => ?_, fun b u e => ?_, J4.len⟩
  · rw [upd_ne (n0 b o e)]
    exact J4.base.free b o e n hx'
  · have q := J4.base.tups b xs e
    rw [upd_ne (hne q)]; exact q
  · have q := J4.base.frzs b o u e
    rw [upd_ne (hne q)]; exact q
  · obtain ⟨more, q⟩ := J4.base.tbls b ps e
    exact ⟨more, by rw [upd_ne (hne q)]; exact q⟩
  · obtain ⟨h1, h2, h3, h4, h5⟩ := J4.pin p hp
    have np : p.1 ≠ a := fun z => by
      have q := (J.pin p hp).1
      rw [z, hn] at q; cases q
    exact ⟨h1, by rw [upd_ne np]; exact h2, h3, h4, h5⟩
  · by_cases hb : b = a
    · subst hb
      rw [upd_same] at e
      cases e
      exact ex_ok he
    · rw [upd_ne hb] at e
      refine (J4.hok b u e).stay (fun _ _ _ q => q) (fun c q => ?_) fun c xs q => ?_
      · rw [upd_ne (hne q)]; exact q
      · rw [upd_ne (hne q)]; exact q
theorem Inv.suiteE (I : Inv X pins σ H s) : Inv (X.suite a (X.pn ++ pins)) [] σ H s :=
  ⟨I.ok.suite _ _, I.os, I.bare, I.base, I.loc, I.cell, I.free, I.freeC, fun p hp => I.pin p (by rw [List.append_nil] at hp; exact hp), I.hok, I.len⟩
theorem Inv.unsuiteE {pn' : List (Addr × Obj)} (I : Inv (X.suite a (X.pn ++ pins)) pn' σ H s) (ok : X.Ok) : Inv X pins σ H s :=
  ⟨ok, I.os, I.bare, I.base, I.loc, I.cell, I.free, I.freeC, fun p hp => I.pin p (List.mem_append_left _ hp), I.hok, I.len⟩
end
/-- what the clause 'except x as n' wishes; the exception is kept -/
def wAsK (K : PySem.W.Frag) (c : Value) (i : Nat) (ts : TS) (Wout : WX) (D : Ends) : WX := fun cls d σ H =>
  ∃ b, PySem.W.exmOne K cls c = some b ∧ (b = true → ∀ a oe, H a = none → Zc cls d oe → (∃ vs, oe.data = .fields vs) → ts { nx := fun σ' H' => D.nx (σ'.set i none) H', rt := D.rt, bk := fun σ' H' => D.bk (σ'.set i none) H', ct := fun σ' H' => D.ct (σ'.set i none) H' } (σ.set i (some (.ref a))) (upd H a (EX oe a))) ∧
    (b = false → Wout cls d σ H)
section
variable {X : Cx} {x n : Str} {c : Value} {i : Nat} {body suite : List Stmt} {b₀ : Stmt} {np pos pos' : Pos} {tb : WX → TS} {ts : TS} {Wout : WX}
theorem ps_tryK (hx0 : X.ex = []) (hs : X.stack = X.env :: X.outer) (hf : X.env.frame = some X.env.locals) (hN : X.N.Nodup) (hi : X.N[i]? = some n) (hln : X.env.kindOf n = some .local) (hc : Names X x c) (tk : Takes X Wout)
    (hb : ∀ (W : WX) (pn : List (Addr × Obj)) (xe : Value → Shared → Prop), Takes (X.tr pn xe) W → PassesOwn (model X.prog X.w) X.A X.env xe → PSs (X.tr pn xe) body (tb W))
    (hsu : ∀ (a : Addr) (pn : List (Addr × Obj)), PSs (X.suite a pn) (b₀ :: suite) ts) :
    PS X (.Try body [.ExceptHandler (some (.Name x np)) (some n) (b₀ :: suite) pos'] [] [] pos) (fun D σ H => tb (wAsK X.K c i ts Wout D) D σ H) := by
  refine ⟨fun pins s σ H D I h => ?_⟩
  have ok := I.ok
  have hfr : X.A.frames = some (X.env :: X.outer) := by rw [ok.frames, hs]
  have hloc : Loc X.env.scope n := .inl hln
  refine wpAny_Try_except ?_
  refine wpAny_mono ((hb (wAsK X.K c i ts Wout D) (X.pn ++ pins) (fun e s₁ => wpAny (model X.prog X.w) X.A (noteFrame e X.env) (fun _ s₂ => wpAny (model X.prog X.w) X.A (setFlight e none) (fun _ s₃ =>
    wpAny (model X.prog X.w) X.A (handleBy e X.env [.ExceptHandler (some (.Name x np)) (some n) (b₀ :: suite) pos']) (SP X pins D) X.xe s₃) X.xe s₂) X.xe s₁) (fun u s' xx => ?_) PassesOwn.looking).run [] s σ H D (I.toTry _) h) (fun f s1 hsp => ?_) (fun e s1 he => he)
  · -- the catch
    obtain ⟨a, B, sI, pins', σ', H', cls, d, rfl, J', nb, up, sky, na, os, ag, b, hb1, hyes, hno⟩ := xx
    have J : Inv X pins σ' H' sI := J'.ofTry ok
    have sky' : Sky B (X.env :: X.outer) a (Zc cls d) X.env.locals s'.heap := by rw [← hs]; exact sky
    show wpAny (model X.prog X.w) X.A (noteFrame (.ref a) X.env) _ _ _
    refine Sky.land Zc.steady hfr hf sky' fun h3 fl3 up3 => ?_
    have J3 : Inv X pins σ' H' { s' with heap := h3 } := J.landed nb fl3.1 (up.trans up3) os ag
    obtain ⟨oe3, vs3, he3, hz3, hd3⟩ := fl3.there
    have notFr : ∀ {h : Heap} {o : Obj} {vs : Array Value}, h.FunFrames B (X.env :: X.outer) → h.get? a = some o → o.data = .fields vs → a ∉ frs (X.env :: X.outer) := fun {h o vs} ff e dd hm => by
      obtain ⟨_, o', e', hnf⟩ := ff.mem hm
      rw [e] at e'; cases e'
      exact hnf _ dd
    have nfr := notFr fl3.2.2.1 he3 hd3
    have nL : a ≠ X.env.locals := fun z => nfr (List.mem_filterMap.mpr ⟨X.env, List.mem_cons_self, by rw [hf, z]⟩)
    have nF : a ∉ X.fs := fun hm => by
      obtain ⟨e, he, q⟩ := List.mem_filterMap.mp hm
      exact nfr (List.mem_filterMap.mpr ⟨e, List.mem_cons_of_mem _ he, q⟩)
    have hnI : sI.heap.get? a = none := by
      cases e : sI.heap.get? a with
      | none => rfl
      | some o =>
        have q := nb a o e (by rw [hs]; exact nfr)
        rw [fl3.2.1] at q; cases q
    have S3 := J3.suite he3 hd3 na nL nF
    refine wpAny_handleBy_cons (codeAny_handlers_test ?_) (by intro q; cases q)
    have LT : PySem.W.Looks (model X.prog X.w) h3 (typeOf (.ref a)) cls := fun A Q E s k q => wpAny_typeOf_ref (k _ _ he3) (by rw [hz3.1]; exact q)
    have LM := PySem.W.exm_one (M := model X.prog X.w) (J3.kIn) LT hb1
    have test : ∀ {Q : Value → Shared → Prop} {E : Value → Shared → Prop}, Q c { s' with heap := h3 } → wpAny (model X.prog X.w) (X.A.mark (some (.ref a))) (eval (.Name x np) X.env) Q E { s' with heap := h3 } := fun {Q E} q => by
      obtain ⟨hg, hdbg, hm | ⟨hm, hv, hnn⟩⟩ := hc
      · exact ld_glob (X := X.suite a ((a, oe3) :: (X.pn ++ pins))) S3 hg hm q hdbg
      · exact ld_blt (X := X.suite a ((a, oe3) :: (X.pn ++ pins))) S3 hg hm hv q hnn hdbg
    refine test (LM.here ?_)
    cases b with
    | true =>
      refine codeAny_handlers_suite_as ?_
      refine HandSPX.lands_againZ fl3 fun h4 fl4 up4 => ?_
      have J4 : Inv X pins σ' H' { s' with heap := h4 } := J.landed nb fl4.1 ((up.trans up3).trans up4) os ag
      obtain ⟨oe4, vs4, he4, hz4, hd4⟩ := fl4.there
      have JK : Inv X pins σ' (upd H' a (EX oe4 a)) { s' with heap := h4 } := Sh.Inv.keepE J J4 hnI na hx0 he4
      have S4 : Inv (X.suite a (X.pn ++ pins)) [] σ' (upd H' a (EX oe4 a)) { s' with heap := h4 } := Sh.Inv.suiteE JK
      refine store_ok (X := X.suite a (X.pn ++ pins)) (v := .ref a) S4 hN hi hloc rfl (fun s5 S5 => ?_) (.inr hln)
      refine wpAny_mono ((hsu a (X.pn ++ pins)).run [] s5 _ _ _ S5 (hyes rfl a oe4 na hz4 ⟨_, hd4⟩)) (fun f s6 hsp => ?_) (fun _ _ z => False.elim z)
      have end_ : ∀ {σ6 : L2.St} {H6 : Hp} {Q : Shared → Prop}, Inv (X.suite a (X.pn ++ pins)) [] σ6 H6 s6 → (∀ s7, Inv X pins (σ6.set i none) H6 s7 → Q s7) →
          wpAny (model X.prog X.w) X.A (do bindName X.env n .none; unbindBehindTheSuite X.env n pos') (fun _ s7 => Q s7) X.xe s6 := fun {σ6 H6 Q} S6 hq => gone_ok (Sh.Inv.unsuiteE S6 ok) hN hi hln hq
      cases f with
      | next =>
        obtain ⟨σ6, H6, S6, q6⟩ := hsp
        exact end_ S6 fun s7 J7 => ⟨_, _, J7, q6⟩
      | brk =>
        obtain ⟨σ6, H6, S6, q6⟩ := hsp
        exact end_ S6 fun s7 J7 => ⟨_, _, J7, q6⟩
      | cont =>
        obtain ⟨σ6, H6, S6, q6⟩ := hsp
        exact end_ S6 fun s7 J7 => ⟨_, _, J7, q6⟩
      | ret u =>
        obtain ⟨v6, σ6, H6, S6, r6, q6⟩ := hsp
        exact end_ S6 fun s7 J7 => ⟨_, _, _, J7, r6, q6⟩
    | false =>
      show wpAny _ X.A (handleBy (.ref a) X.env []) _ _ _
      refine wpAny_handleBy_nil ?_
      obtain ⟨k1, k2, k3, oe, vs, T, oT, ts', he, hz, hd, h1, hr⟩ := id fl3
      unfold PySem.passOn
      refine wpAny_bind (wpAny_field he hd h1 ?_)
      rw [if_neg (show ¬ ((Value.ref T == Value.none) = true) from by simp)]
      have fin : wpAny (model X.prog X.w) X.A (setFlight (.ref a) X.env.frame) (fun _ s4 => wpAny (model X.prog X.w) X.A (throw (.ref a) : Sem Flow) (SP X pins D) X.xe s4) X.xe { s' with heap := h3 } := by
        rw [hf]
        refine HandSPX.setFlight_upZ fl3 fun h4 hh4 up4 => wpAny_throw (tk _ _ ?_)
        exact ⟨a, B, sI, pins, σ', H', cls, d, rfl, J, nb, (up.trans up3).trans up4, .inr (.inr (by rw [hs]; exact hh4)), na, os, ag, hno rfl⟩
      first
        | exact wpAny_bind (wpAny_pure (wpAny_bind fin))
        | exact wpAny_bind fin
  · cases f with
    | next =>
      obtain ⟨σ', H', J', q⟩ := hsp
      exact wpAny_execs_nil ⟨σ', H', J'.ofTry ok, q⟩
    | brk =>
      obtain ⟨σ', H', J', q⟩ := hsp
      exact ⟨σ', H', J'.ofTry ok, q⟩
    | cont =>
      obtain ⟨σ', H', J', q⟩ := hsp
      exact ⟨σ', H', J'.ofTry ok, q⟩
    | ret u =>
      obtain ⟨v, σ', H', J', r, q⟩ := hsp
      exact ⟨v, σ', H', J'.ofTry ok, r, q⟩
end
end Sh
namespace Sh
open PySem PySem.Spec PySem.Calls PyProof.Rows L2
/-! ### a kept exception's field, its kinds -/
def tFldE (K : PySem.W.Frag) (n : Str) (te : TE) : TE := fun σ H Q => te σ H fun x H1 => ∃ (a C dd : Addr) (oe : Obj) (u : HO) (fs : List (Str × V)) (v : V), x = .ref a ∧ H1 a = some (.frz oe u) ∧ Zc (.ref C) (some dd) oe ∧ (∃ vs, oe.data = .fields vs) ∧ XfC K C ∧ PySem.W.findIn K (.ref C) n = some none ∧
  H1 dd = some (.xd fs) ∧ fs.lookup n = some v ∧ Q v H1
theorem g_fldE {X : Cx} {K : PySem.W.Frag} (hK : X.K = K) {e : Expr} {te : TE} {pos : Pos} {n : Str} (he : PE X e te) (hb : attributeBase e n X.env (eval e X.env) = eval e X.env := by rfl) : PE X (.Attribute e n pos) (tFldE K n te) := by
  subst hK
  refine ⟨fun pins s σ H Q I h => ?_⟩
  refine attr_of hb (thn (he.run pins s σ H _ I h) fun u s1 hh => ?_)
  obtain ⟨x, H1, I1, rx, a, C, dd, oe, uo, fs, v, ex, hea, hz, hf, T, hno, ea, l, q⟩ := hh
  subst ex
  obtain rfl : u = Value.ref a := rx
  obtain ⟨ha, _⟩ := (show ObjOk X.prog X.w H1 s1.heap a (.frz oe uo) from I1.hok a _ hea)
  obtain ⟨vs, hd⟩ := hf
  have hx : ObjOk X.prog X.w H1 s1.heap dd (.xd fs) := I1.hok dd _ ea
  obtain ⟨mA, hns, hr⟩ := hx
  obtain ⟨od, ho, hl⟩ := lookIn_ns hns
  obtain ⟨u, hu, ru⟩ := RelO.some_of (v := v) (o := mA n) (by rw [← l]; exact hr n)
  have J : PySem.W.InstAt s1.heap a oe C (some od) := ⟨ha, hz.1, by unfold PySem.W.notCls; rw [hd] <;> rfl, by rw [hz.2]; exact ho⟩
  exact HandSPX.exc_get I1.kIn J T.ga T.gg T.exC (PySem.W.findObj_own T.hdC hno rfl (by rw [hl, hu])) (handed_of ru) ⟨v, H1, I1.tok _, ru, q⟩
def ExIs (K : PySem.W.Frag) (H : Hp) (a D : Addr) : Prop := ∃ (dd : Addr) (oe : Obj) (u : HO) (fs : List (Str × V)), H a = some (.frz oe u) ∧ Zc (.ref D) (some dd) oe ∧ (∃ vs, oe.data = .fields vs) ∧ H dd = some (.xd fs) ∧ ExcC K D
def rIsiX (K : PySem.W.Frag) : List V → Hp → VK → Prop := fun xs H Q => ∃ (a D : Addr) (c : V) (cv : Value) (b : Bool), xs = [.ref a, c] ∧ ClsV c cv ∧ ExIs K H a D ∧ PySem.W.kitOne K (.ref D) cv = some b ∧ Q (.bl b) H
def rIsiTX (K : PySem.W.Frag) : List V → Hp → VK → Prop := fun xs H Q => ∃ (a D tp : Addr) (cs : List V) (us : List Value) (b : Bool), xs = [.ref a, .ref tp] ∧ H tp = some (.tup cs) ∧ Paired ClsV cs us ∧ ExIs K H a D ∧ PySem.W.kitAny K (.ref D) us = some b ∧ Q (.bl b) H
section
variable {X : Cx}
theorem exis_kit {pins : List (Addr × Obj)} {σ : L2.St} {H : Hp} {s : Shared} {a D : Addr} (I : Inv X pins σ H s) (h : ExIs X.K H a D) : ∃ P : Heap → Prop, PySem.W.KitX X.K (.ref a) (.ref D) P ∧ P s.heap := by
  obtain ⟨dd, oe, u, fs, hea, hz, ⟨vs, hd⟩, ea, C⟩ := h
  obtain ⟨ha, _⟩ := (show ObjOk X.prog X.w H s.heap a (.frz oe u) from I.hok a _ hea)
  have hx : ObjOk X.prog X.w H s.heap dd (.xd fs) := I.hok dd _ ea
  obtain ⟨mA, hns, hr⟩ := hx
  obtain ⟨od, ho, hl⟩ := lookIn_ns hns
  have J : PySem.W.InstAt s.heap a oe D (some od) := ⟨ha, hz.1, by unfold PySem.W.notCls; rw [hd] <;> rfl, by rw [hz.2]; exact ho⟩
  exact ⟨_, PySem.W.kitx_exc (by obtain ⟨cd, hc, _⟩ := PySem.W.any_some C.hd; rw [hc]; rfl) C.hg C.hk C.hs C.ha C.hn C.ht C.hm, J⟩
theorem call_isiX : CallR X (.builtin "isinstance") (rIsiX X.K) := by
  intro pins s σ H xs us Q I r h
  obtain ⟨a, D, c, cv, b, rfl, k, ex, e, q⟩ := h
  obtain ⟨u1, u2, rfl, r1, r2⟩ := vals2 r
  have e2 := k.eq r2
  subst e2
  cases (show u1 = Value.ref a from r1)
  obtain ⟨P, Z, p⟩ := exis_kit I ex
  exact PySem.W.kia_one Z I.kIn p e (fun z => nomatch z) fun tk => ⟨.bl b, H, I.tok tk, rfl, q⟩
theorem call_isiTX : CallR X (.builtin "isinstance") (rIsiTX X.K) := by
  intro pins s σ H xs us Q I r h
  obtain ⟨a, D, tp, cs, ws, b, rfl, hT, k, ex, e, q⟩ := h
  obtain ⟨u1, u2, rfl, r1, r2⟩ := vals2 r
  cases (show u1 = Value.ref a from r1)
  cases (show u2 = Value.ref tp from r2)
  obtain ⟨P, Z, p⟩ := exis_kit I ex
  obtain ⟨_, its, rv, o, h1, h2, n, h3⟩ := (show ObjOk X.prog X.w H s.heap tp (.tup cs) from I.hok tp _ hT)
  have e3 := ClsV.all k rv
  subst e3
  obtain ⟨oc, od, dt, sl⟩ := o
  simp only at h2 h3
  subst h2 h3
  exact PySem.W.kia_tup Z I.kIn p h1 e (fun z => nomatch z) fun tk => ⟨.bl b, H, I.tok tk, rfl, q⟩
end
def rIsiE (K : PySem.W.Frag) : List V → Hp → VK → Prop := fun xs H Q => rIsi K xs H Q ∨ rIsiX K xs H Q
def rIsiTE (K : PySem.W.Frag) : List V → Hp → VK → Prop := fun xs H Q => rIsiT K xs H Q ∨ rIsiTX K xs H Q
theorem g_isiE {X : Cx} {K : PySem.W.Frag} (hK : X.K = K) : CallR X (.builtin "isinstance") (rIsiE K) := by subst hK; exact call_isi.or call_isiX
theorem g_isiTE {X : Cx} {K : PySem.W.Frag} (hK : X.K = K) : CallR X (.builtin "isinstance") (rIsiTE K) := by subst hK; exact call_isiT.or call_isiTX
/-- a value's class -/
inductive ClsD (K : PySem.W.Frag) : D → Value → Prop
  | kind {d : D} {s : String} (h : d.kind = some s) : ClsD K d (.type s)
  | exc {C : Addr} {fs : List (Str × D)} (h : ExcC K C) : ClsD K (.exc C fs) (.ref C)
/-- a class as data -/
inductive ClsC : D → V → Value → Prop
  | ty (n : String) : ClsC (.ty n) (.ty n) (.type n)
  | own (C : Addr) : ClsC (.ref C) (.ref C) (.ref C)
theorem c_isiE {K : PySem.W.Frag} {d c : D} {vc : V} {t cv : Value} {r : Bool} (h : ClsD K d t) (hc : ClsC c vc cv) (hk : PySem.W.kitOne K t cv = some r) : ClD K (rIsiE K) [d, c] (.bl r) := fun N b H vs Q hN l rr k => by
  cases rr with
  | cons r1 r2 =>
    cases r2 with
    | cons r2 r3 =>
      cases r3
      have cc : ∀ v, Rp K (msk N H) v c → v = vc ∧ ClsV vc cv := fun v q => by
        cases hc with
        | ty n => cases q; exact ⟨rfl, .ty n⟩
        | own C => cases q; exact ⟨rfl, .own C⟩
      obtain ⟨e2, cl⟩ := cc _ r2
      subst e2
      cases h with
      | kind h => exact .inl ⟨_, _, _, _, r, rfl, cl, (r1.mono msk_all).tyX h, hk, k _ _ _ rfl (Ext.refl H) l (.bl _)⟩
      | exc h =>
        cases r1 with
        | exc h1 z f x q => exact .inr ⟨_, _, _, _, r, rfl, cl, ⟨_, _, _, _, (msk_of h1.1).2, z, f, (msk_of x).2, h⟩, hk, k _ _ _ rfl (Ext.refl H) l (.bl _)⟩
def tKs : List V → TA
  | [] => tNil
  | v :: vs => tCons (tC v) (tKs vs)
theorem tKs_run : ∀ (vs : List V) (σ : L2.St) (H : Hp) (Q : List V → Hp → Prop), Q vs H → tKs vs σ H Q
  | [], _, _, _, h => h
  | v :: vs, σ, H, Q, h => tKs_run vs σ H (fun xs H1 => Q (v :: xs) H1) h
theorem ev_isiTE {G : Gx} {p : Bool} {b b' : Nat} {te : TE} {ds : List Sd} {d : D} {t : Value} {r : Bool} (cs : List V) {cvs : List Value} (h : EvD G false b b' te ds d) (hd : ClsD G.K d t) (hcs : Paired ClsV cs cvs) (hk : PySem.W.kitAny G.K t cvs = some r) (hl : cs.length ≤ 1000 := by decide) :
    EvD G p b b' (tCB (rIsiTE G.K) (tCons te (tCons (tTup (tKs cs)) tNil))) ds (.bl r) := fun gs M H σ S Q k =>
  h gs M H σ S _ fun v d' H1 e e1 l1 rp => by
    subst e
    refine tKs_run cs σ H1 _ ⟨by rw [sizeLine_eq]; omega, fun a ha => ?_⟩
    have e2 : Ext H1 (upd H1 a (.tup cs)) := Ext.new ha
    have fin : Q (.bl r) (upd H1 a (.tup cs)) := k _ _ _ rfl (e1.trans e2) (l1.upd fun _ z => nomatch z) (.bl _)
    have rp2 := (rp.mono msk_all).mono e2.toKp
    cases hd with
    | kind hd => exact .inl ⟨v, a, cs, _, cvs, r, rfl, upd_same, hcs, rp2.tyX hd, hk, fin⟩
    | exc hd =>
      cases rp2 with
      | exc h1 z f x q => exact .inr ⟨_, _, a, cs, cvs, r, rfl, upd_same, hcs, ⟨_, _, _, _, h1.1, z, f, x, hd⟩, hk, fin⟩
theorem RpF.look {K : PySem.W.Frag} {H : Hp} {n : Str} {d : D} : ∀ {fs : List (Str × V)} {ds : List (Str × D)}, RpF K H fs ds → ds.lookup n = some d → ∃ v, fs.lookup n = some v ∧ Rp K H v d
  | _, _, .nil, h => by cases h
  | _, _, .cons (k := k) p q, h => by
    by_cases e : n = k
    · subst e
      simp [List.lookup] at h
      subst h
      exact ⟨_, by simp [List.lookup], p⟩
    · have e' : (n == k) = false := by simpa using e
      simp only [List.lookup, e'] at h
      obtain ⟨v, h1, h2⟩ := RpF.look q h
      exact ⟨v, by simp only [List.lookup, e']; exact h1, h2⟩
theorem ev_fldE {G : Gx} {p : Bool} {b b' : Nat} {te : TE} {ds : List Sd} {C : Addr} {fs : List (Str × D)} {n : Str} {d : D} (h : EvD G p b b' te ds (.exc C fs)) (T : XfC G.K C) (hno : PySem.W.findIn G.K (.ref C) n = some none) (hl : fs.lookup n = some d) : EvD G p b b' (tFldE G.K n te) ds d := fun gs M H σ S Q k =>
  h gs M H σ S _ fun v d' H1 e e1 l1 rp => by
    subst e
    cases rp with
    | exc h1 z f x q =>
      obtain ⟨w, h2, h3⟩ := q.look hl
      exact ⟨_, _, _, _, _, _, w, rfl, (msk_of h1.1).2, z, f, T, hno, (msk_of x).2, h2, k _ _ _ rfl e1 l1 h3⟩
/-! ### raise C(e), C with one field -/
def sp1 (K : PySem.W.Frag) (f : Str) : Sp := fun vs H Q _ => ∃ (a C : Addr) (y : V), vs = [.ref a, y] ∧ H a = some (exo a C none) ∧ OexC K C ∧ PySem.W.findIn K (.ref C) f = some none ∧ ∀ dx, H dx = none → dx ≠ a → Q .non (upd (upd H dx (exd dx [(f, y)])) a (exo a C (some dx)))
section
variable {P : Program} {w : World} {K : PySem.W.Frag} {mg : Str → Option Value} {base : Heap} {k : Nat} {f : Addr} {fd : FuncData}
theorem init1_fn {x qual fl : Str} {st : Stmt} (U : Fun K x qual st f fd) (S : FnScope ["self", fl] ["self", fl] (defScope st))
    (hbody : ∀ (cdv : Value) (A : Around) (outer : List Env) (s : Shared) (H : Hp) (E : XK), PSs (cxOf (L2.CX P w) P w K mg base ["self", fl] qual (defScope st) f cdv A outer s H E) (defBody st) (tOst K fl (tVar 0) (tVar 1))) :
    FnOk P w K mg base (L2.CX P w) 1 f fd ["self", fl] (sp1 K fl) := by
  obtain ⟨oc, od, kV, doc, pm, an, cdv, ct, osl, rfl, lk, hcd⟩ := U.ex
  refine fn_of lk hcd S (fun vs H Q E ⟨a, C, y, e, _⟩ => by rw [e]; rfl) fun A outer s H vs Q E hr hsp => ?_
  obtain ⟨a, C, y, rfl, h1, h2, h3, h4⟩ := hsp
  exact ⟨_, hbody cdv A outer s H E, y, rfl, .ref a, rfl, a, C, rfl, h2, h3, .inl ⟨h1, h4⟩⟩
end
def tRaise1 (K : PySem.W.Frag) (C : Addr) (f : Str) (W : WX) (ta : TA) : TS := fun _ σ H => tMkO C (sp1 K f) [] ta σ H fun cls d H' => W cls d σ H'
/-- what is known of a class X(e) with one field -/
structure Ex1 (P : Program) (w : World) (K : PySem.W.Frag) (mg : Str → Option Value) (base : Heap) (C fI : Addr) (fd : FuncData) (f : Str) : Prop where
  oex : OexC K C
  nof : PySem.W.findIn K (.ref C) f = some none
  iC : PySem.W.findIn K (.ref C) "__init__" = some (some (.ref fI))
  tI : PySem.W.typeIn K (.ref fI) = some (.type "function")
  bI : Binds K fd ["self", f] []
  F : FnOk P w K mg base (L2.CX P w) 1 fI fd ["self", f] (sp1 K f)
theorem g_raise1 {X : Cx} {K : PySem.W.Frag} (hK : X.K = K) {C fI : Addr} {fd : FuncData} {f x : Str} {e : Expr} {te : TE} {W : WX} {p pos pos2 : Pos} (hc : X.calm = true) (T : Ex1 X.prog X.w K X.mg X.base C fI fd f) (hr : Room 2 X.A) (tk : Takes X W) (hg : Gl X x) (hm : X.mg x = some (.ref C)) (he : PE X e te)
    (hdb : (x == ("__debug__" : Str)) = false := by decide) (hse : starEach (e :: []) X.env = (false, eval e X.env) :: starEach [] X.env := by rfl) (hpl : (backTo pos (starEach [] X.env)).any (·.1) = false := by rfl) :
    PS X (.Raise (some (.Call (.Name x p) [e] [] pos)) none pos2) (tRaise1 K C f W (tCons te tNil)) := by
  subst hK
  exact ps_raise hc tk (pmk_oex (CX := L2.CX X.prog X.w) T.oex T.iC T.tI T.F hr T.bI .nil (fun pins σ H s e s' I c => pass_never σ pins H s e s' I c) hg hm (pa_cons he pa_nil hse) hdb hse hpl)
end Sh
namespace Sh
open PySem PySem.Spec PySem.Calls PyProof.Rows L2
theorem raise_heap {H1 : Hp} {a dx : Addr} {C : Addr} {f : Str} {v : V} (ha : H1 a = none) (hd : (upd H1 a (exo a C none)) dx = none) (ne : dx ≠ a) :
    upd (del (upd (upd (upd H1 a (exo a C none)) dx (exd dx [(f, v)])) a (exo a C (some dx))) a) dx (.xd [(f, v)]) = upd H1 dx (.xd [(f, v)]) := by
  funext b
  by_cases h1 : b = dx
  · rw [h1, upd_same, upd_same]
  · rw [upd_ne h1, upd_ne h1]
    by_cases h2 : b = a
    · rw [h2, del_same, ha]
    · rw [del_ne h2, upd_ne h2, upd_ne h1, upd_ne h2]
theorem w_raise1 {G : Gx} {b b' : Nat} {te : TE} {ds : List Sd} {E : DE} {C : Addr} {f : Str} {x : D} (acc : G.Acc) (ho : OexC G.K C) (hno : PySem.W.findIn G.K (.ref C) f = some none) (h : EvD G G.pm b b' te ds x) (hx : G.X C [(f, x)] ds b') : Wt G b (tRaise1 G.K C f G.W (tCons te tNil)) ds E := fun gs M H σ S Dn w => by
  refine h gs M H σ S _ fun v d H1 r e l rp => ?_
  subst r
  refine ⟨by show 1 ≤ 1000; decide, fun a ha => ⟨a, C, v, rfl, upd_same, ho, hno, fun dx hd ne => ⟨rfl, dx, [(f, v)], upd_same, ?_, ?_, ?_⟩⟩⟩
  · rw [upd_ne ne, upd_same]
  · rw [upd_ne ne] at hd; exact hd
  · have hd1 : H1 dx = none := by rw [upd_ne ne] at hd; exact hd
    show G.W (.ref C) (some dx) σ _
    rw [raise_heap ha hd ne]
    have S1 := S.step e l
    have e2 : Ext H1 (upd H1 dx (.xd [(f, v)])) := Ext.new hd1
    exact acc gs M b' _ σ ds C dx [(f, v)] [(f, d)] (S1.step e2 (l.upd fun _ z => nomatch z)) upd_same (S1.ext.free hd1) (fun z => S1.liv dx z hd1) (.cons (rp.mono (msk_mono e2.toKp)) .nil) hx
/-! ### try .. except C as e: .. -/
section
variable {K : PySem.W.Frag} {H0 H H' : Hp} {M0 M M' : Addr → Prop} {b b' : Nat} {σ σ' : List (Option V)} {ds ds' : List Sd} {gs gs' : List (V × D)}
theorem Stt.noGh (S : Stt K H0 M0 gs M b H σ ds) : Stt K H0 M0 [] M b H σ ds := ⟨S.ext, S.m0, S.new, S.liv, S.lim, S.len, S.sl, S.inj, S.ownNew, fun q hq => by cases hq⟩
/-- what is entered here -/
theorem Stt.enter (S : Stt K H0 M0 gs M b H σ ds) (no : ∀ s ∈ ds, isOwn s = false) : Stt K H M [] M b H σ ds :=
  ⟨Ext.refl H, fun _ h => h, fun a h n => absurd h n, S.liv, S.lim, S.len, S.sl, S.inj, (fun j c ⟨_, s, _, h2, h3⟩ => by have q := adr_own h3; rw [no s (List.mem_of_getElem? h2)] at q; cases q), fun q hq => by cases hq⟩
theorem Stt.under (S : Stt K H0 M0 gs M b H σ ds) (S' : Stt K H M gs' M' b' H' σ' ds') : Stt K H0 M0 gs M' b' H' σ' ds' :=
  ⟨S.ext.trans S'.ext, fun a h => S'.m0 a (S.m0 a h), fun a h n => by
    by_cases hm : M a
    · exact S.new a hm n
    · exact S.ext.free (S'.new a h hm), S'.liv, S'.lim, S'.len, S'.sl, S'.inj, fun j c h z => S'.ownNew j c h (S.m0 c z), fun q hq => (S.gh q hq).mono ⟨fun a o h n => by
      obtain ⟨h1, h2⟩ := msk_of h
      rw [msk_no fun z => by have := S'.new a z h1; rw [this] at h2; cases h2]
      exact S'.ext.keep a o h2 n, fun a n h => by
      obtain ⟨h1, h2⟩ := msk_of h
      obtain ⟨m, q⟩ := S'.ext.pz a n h2
      exact ⟨m, by rw [msk_no fun z => by have := S'.new a z h1; rw [this] at h2; unfold PurseO at h2; cases h2]; exact q⟩⟩⟩
end
/-- try: .. except c as slot i: .. -/
def tTryK (K : PySem.W.Frag) (c : Value) (i : Nat) (tb : WX → TS) (ts : TS) (Wout : WX) : TS := fun D σ H => tb (wAsK K c i ts Wout D) D σ H
theorem g_tryK {X : Cx} {K : PySem.W.Frag} (hK : X.K = K) {x n : Str} {c : Value} {i : Nat} {body suite : List Stmt} {b₀ : Stmt} {np pos pos' : Pos} {tb : WX → TS} {ts : TS} {Wout : WX} (hx0 : X.ex = []) (hs : X.stack = X.env :: X.outer) (hf : X.env.frame = some X.env.locals) (hN : X.N.Nodup) (hi : X.N[i]? = some n) (hln : X.env.kindOf n = some .local) (hc : Names X x c) (tk : Takes X Wout)
    (hb : ∀ (W : WX) (pn : List (Addr × Obj)) (xe : Value → Shared → Prop), Takes (X.tr pn xe) W → PassesOwn (model X.prog X.w) X.A X.env xe → PSs (X.tr pn xe) body (tb W))
    (hsu : ∀ (a : Addr) (pn : List (Addr × Obj)), PSs (X.suite a pn) (b₀ :: suite) ts) :
    PS X (.Try body [.ExceptHandler (some (.Name x np)) (some n) (b₀ :: suite) pos'] [] [] pos) (tTryK K c i tb ts Wout) := by
  subst hK
  exact ps_tryK hx0 hs hf hN hi hln hc tk hb hsu
theorem w_tryK {G : Gx} {b : Nat} {ds : List Sd} {E : DE} {c : Value} {i : Nat} {tb : WX → TS} {ts : TS} {Wout : WX} (HX : Addr → List (Str × D) → List Sd → Nat → Prop) (no : ∀ s ∈ ds, isOwn s = false) (ho : E.ro = false)
    (h : ∀ (W : WX) (H : Hp) (M : Addr → Prop), (⟨G.K, H, M, W, HX, true⟩ : Gx).Acc → Wt ⟨G.K, H, M, W, HX, true⟩ b (tb W) ds E)
    (hH : ∀ C fs ds' b', HX C fs ds' b' → PySem.W.exmOne G.K (.ref C) c = some true ∧ Wt G b' ts (ds'.set i (.dat (.exc C fs))) { nx := fun ds b => E.nx (ds.set i .un) b, rt := E.rt, bk := fun ds b => E.bk (ds.set i .un) b, ct := fun ds b => E.ct (ds.set i .un) b, ro := E.ro, ro2 := E.ro2 }) :
    Wt G b (tTryK G.K c i tb ts Wout) ds E := fun gs M H σ S Dn w => by
  have S0 := S.enter no
  refine h (wAsK G.K c i ts Wout Dn) H M (fun gs1 M1 b1 H1 σ1 ds1 C dd fsV fs S1 h1 h2 h3 h4 h5 => ?_) [] M H σ S0 Dn ⟨fun M' b' H' σ' ds' S' e => w.nx M' b' H' σ' ds' (S.under S') e, fun M' b' H' σ' ds' v d S' e r o => w.rt M' b' H' σ' ds' v d (S.under S') e (r.mono (msk_sub S.m0)) (fun z => by rw [ho] at z; cases z), fun M' b' H' σ' ds' S' e => w.bk M' b' H' σ' ds' (S.under S') e, fun M' b' H' σ' ds' S' e => w.ct M' b' H' σ' ds' (S.under S') e⟩
  obtain ⟨g1, g2⟩ := hH C fs ds1 b1 h5
  refine ⟨true, g1, fun _ a oe ha hz hf => ?_, fun z => nomatch z⟩
  have S2 := S.under S1
  have e2 : Ext H1 (upd H1 a (EX oe a)) := Ext.new ha
  have S3 := S2.step e2 (S2.lim.upd fun _ z => nomatch z)
  have ndd : dd ≠ a := fun z => by rw [z, ha] at h1; cases h1
  have rp : Rp G.K (msk M1 (upd H1 a (EX oe a))) (.ref a) (.exc C fs) := .exc ⟨msk_new S2.liv ha, _, rfl⟩ hz hf (by rw [msk_no h3, upd_ne ndd]; exact h1) (RpF.mono (msk_mono e2.toKp) h4)
  have S4 := S3.set (i := i) rp
  exact g2 gs M1 _ _ S4 _ ⟨fun M b H σ ds S e => w.nx M b H _ _ (S.forget i none) e, w.rt, fun M b H σ ds S e => w.bk M b H _ _ (S.forget i none) e, fun M b H σ ds S e => w.ct M b H _ _ (S.forget i none) e⟩
end Sh
namespace Sh
open PySem
/-- the n-th statement of a class's body -/
def clsStmt : Stmt → Nat → Stmt
  | .ClassDef _ _ _ body _ _ _ _ _ _ _, n => body.getD n (.Pass ⟨0, 0, 0, 0⟩)
  | s, _ => s
end Sh
namespace Sh
open PySem PySem.Spec PySem.Calls PyProof.Rows L2
theorem excc_xf {K : PySem.W.Frag} {C : Addr} (h : ExcC K C) : XfC K C := ⟨h.hg, h.hk, h.hs, h.hd⟩
end Sh
namespace Sh
open PySem PySem.Spec PySem.Calls PyProof.Rows L2
theorem ev_isiTN {G : Gx} {p : Bool} {b b' : Nat} {te : TE} {ds : List Sd} {d : D} {t : Value} (As : List Addr) (h : EvD G false b b' te ds d) (hd : ClsD G.K d t) (hk : ∀ A ∈ As, PySem.W.kitOne G.K t (.ref A) = some false) (hl : As.length ≤ 1000) :
    EvD G p b b' (tCB (rIsiTE G.K) (tCons te (tCons (tTup (tKs (As.map V.ref))) tNil))) ds (.bl false) := by
  have h1 : ∀ As : List Addr, Paired ClsV (As.map V.ref) (As.map Value.ref) := fun As => by
    induction As with
    | nil => exact .nil
    | cons a as ih => exact .cons (.own a) ih
  have h2 : ∀ As : List Addr, (∀ A ∈ As, PySem.W.kitOne G.K t (.ref A) = some false) → PySem.W.kitAny G.K t (As.map Value.ref) = some false := fun As => by
    induction As with
    | nil => intro _; exact kitAny_nil
    | cons a as ih => intro h; exact kitAny_cons (h a List.mem_cons_self) (fun _ => ih fun A hA => h A (List.mem_cons_of_mem _ hA)) fun z => nomatch z
  exact ev_isiTE _ h hd (h1 As) (h2 As hk) (by rw [List.length_map]; exact hl)
end Sh
namespace Sh
open PySem PySem.Spec PySem.Calls PyProof.Rows L2
/-! ### facts of classes -/
theorem kit_cls0 {K : PySem.W.Frag} {t : Value} {C : Addr} {r : Bool} (h1 : PySem.W.isClsIn K C = true) (h2 : PySem.W.typeIn K (.ref C) = some (.type "type")) (h3 : PySem.W.subIn K t (.ref C) = some r) : PySem.W.kitCls K t (.ref C) = some r := by
  have e2 : ((PySem.W.clsIn K C).isSome && PySem.W.typeIn K (.ref C) == some (.type "type")) = true := by
    have h2' : (PySem.W.clsIn K C).isSome = true := h1
    rw [h2', h2] <;> rfl
  show (if ((PySem.W.clsIn K C).isSome && PySem.W.typeIn K (.ref C) == some (.type "type")) = true then PySem.W.subIn K t (.ref C) else none) = some r
  rw [if_pos e2]
  exact h3
theorem kit_sub {K : PySem.W.Frag} {t : Value} {C : Addr} {r : Bool} (h1 : PySem.W.isClsIn K C = true) (h2 : PySem.W.typeIn K (.ref C) = some (.type "type")) (h4 : PySem.W.subIn K (.ref C) (.ref C) = some true) (h3 : PySem.W.subIn K t (.ref C) = some r) : PySem.W.kitOne K t (.ref C) = some r := by
  unfold PySem.W.kitOne
  by_cases e : (t == Value.ref C) = true
  · rw [if_pos e]
    have e2 := beq_iff_eq.mp e
    rw [e2, h4] at h3
    exact h3
  · rw [if_neg e]
    exact kit_cls0 h1 h2 h3
theorem kit_non {K : PySem.W.Frag} {C : Addr} (h1 : PySem.W.isClsIn K C = true) (h2 : PySem.W.typeIn K (.ref C) = some (.type "type")) : PySem.W.kitOne K (.type "NoneType") (.ref C) = some false := by
  have h3 : PySem.W.subIn K (.type "NoneType") (.ref C) = some false := by
    have e : PySem.fastBuiltinMro "NoneType" = some [.type "NoneType", .type "object"] := by decide +kernel
    show (PySem.fastBuiltinMro "NoneType").map (·.contains (Value.ref C)) = some false
    rw [e]
    rfl
  unfold PySem.W.kitOne
  rw [if_neg (show ¬ (Value.type "NoneType" == Value.ref C) = true from fun z => by cases (beq_iff_eq.mp z))]
  exact kit_cls0 h1 h2 h3
theorem kit_vE {K : PySem.W.Frag} {C : Addr} {r : Bool} (h : PySem.W.subIn K (.ref C) (.type "ValueError") = some r) : PySem.W.kitOne K (.ref C) (.type "ValueError") = some r := by
  have e : PySem.W.kitMeta "ValueError" = true := by decide +kernel
  unfold PySem.W.kitOne
  rw [if_neg (show ¬ (Value.ref C == Value.type "ValueError") = true from fun z => by cases (beq_iff_eq.mp z))]
  show (if PySem.W.kitMeta "ValueError" = true then PySem.W.subIn K (.ref C) (.type "ValueError") else none) = some r
  rw [if_pos e]
  exact h
end Sh

/-! Sh22: try with two except clauses, the exception kept. -/
namespace Sh
open PySem PySem.Spec PySem.Calls PyProof.Rows L2
section
variable {X : Cx} {x n x2 n2 : Str} {c c2 : Value} {i i2 : Nat} {body suite suite2 : List Stmt} {b₀ b₁ : Stmt} {np pos pos' np2 pos2 : Pos} {tb : WX → TS} {ts ts2 : TS} {Wout : WX}
theorem ps_tryK2 (hx0 : X.ex = []) (hs : X.stack = X.env :: X.outer) (hf : X.env.frame = some X.env.locals) (hN : X.N.Nodup) (hi : X.N[i]? = some n) (hln : X.env.kindOf n = some .local) (hc : Names X x c) (hi2 : X.N[i2]? = some n2) (hln2 : X.env.kindOf n2 = some .local) (hc2 : Names X x2 c2) (tk : Takes X Wout)
    (hb : ∀ (W : WX) (pn : List (Addr × Obj)) (xe : Value → Shared → Prop), Takes (X.tr pn xe) W → PassesOwn (model X.prog X.w) X.A X.env xe → PSs (X.tr pn xe) body (tb W))
    (hsu : ∀ (a : Addr) (pn : List (Addr × Obj)), PSs (X.suite a pn) (b₀ :: suite) ts) (hsu2 : ∀ (a : Addr) (pn : List (Addr × Obj)), PSs (X.suite a pn) (b₁ :: suite2) ts2) :
    PS X (.Try body [.ExceptHandler (some (.Name x np)) (some n) (b₀ :: suite) pos', .ExceptHandler (some (.Name x2 np2)) (some n2) (b₁ :: suite2) pos2] [] [] pos) (fun D σ H => tb (wAsK X.K c i ts (wAsK X.K c2 i2 ts2 Wout D) D) D σ H) := by
  refine ⟨fun pins s σ H D I h => ?_⟩
  have ok := I.ok
  have hfr : X.A.frames = some (X.env :: X.outer) := by rw [ok.frames, hs]
  have hloc : Loc X.env.scope n := .inl hln
  have hloc2 : Loc X.env.scope n2 := .inl hln2
  refine wpAny_Try_except ?_
  refine wpAny_mono ((hb (wAsK X.K c i ts (wAsK X.K c2 i2 ts2 Wout D) D) (X.pn ++ pins) (fun e s₁ => wpAny (model X.prog X.w) X.A (noteFrame e X.env) (fun _ s₂ => wpAny (model X.prog X.w) X.A (setFlight e none) (fun _ s₃ =>
    wpAny (model X.prog X.w) X.A (handleBy e X.env [.ExceptHandler (some (.Name x np)) (some n) (b₀ :: suite) pos', .ExceptHandler (some (.Name x2 np2)) (some n2) (b₁ :: suite2) pos2]) (SP X pins D) X.xe s₃) X.xe s₂) X.xe s₁) (fun u s' xx => ?_) PassesOwn.looking).run [] s σ H D (I.toTry _) h) (fun f s1 hsp => ?_) (fun e s1 he => he)
  · -- the catch
    obtain ⟨a, B, sI, pins', σ', H', cls, d, rfl, J', nb, up, sky, na, os, ag, b, hb1, hyes, hno⟩ := xx
    have J : Inv X pins σ' H' sI := J'.ofTry ok
    have sky' : Sky B (X.env :: X.outer) a (Zc cls d) X.env.locals s'.heap := by rw [← hs]; exact sky
    show wpAny (model X.prog X.w) X.A (noteFrame (.ref a) X.env) _ _ _
    refine Sky.land Zc.steady hfr hf sky' fun h3 fl3 up3 => ?_
    have J3 : Inv X pins σ' H' { s' with heap := h3 } := J.landed nb fl3.1 (up.trans up3) os ag
    obtain ⟨oe3, vs3, he3, hz3, hd3⟩ := fl3.there
    have notFr : ∀ {h : Heap} {o : Obj} {vs : Array Value}, h.FunFrames B (X.env :: X.outer) → h.get? a = some o → o.data = .fields vs → a ∉ frs (X.env :: X.outer) := fun {h o vs} ff e dd hm => by
      obtain ⟨_, o', e', hnf⟩ := ff.mem hm
      rw [e] at e'; cases e'
      exact hnf _ dd
    have nfr := notFr fl3.2.2.1 he3 hd3
    have nL : a ≠ X.env.locals := fun z => nfr (List.mem_filterMap.mpr ⟨X.env, List.mem_cons_self, by rw [hf, z]⟩)
    have nF : a ∉ X.fs := fun hm => by
      obtain ⟨e, he, q⟩ := List.mem_filterMap.mp hm
      exact nfr (List.mem_filterMap.mpr ⟨e, List.mem_cons_of_mem _ he, q⟩)
    have hnI : sI.heap.get? a = none := by
      cases e : sI.heap.get? a with
      | none => rfl
      | some o =>
        have q := nb a o e (by rw [hs]; exact nfr)
        rw [fl3.2.1] at q; cases q
    have S3 := J3.suite he3 hd3 na nL nF
    refine wpAny_handleBy_cons (codeAny_handlers_test ?_) (by intro q; cases q)
    have LT : PySem.W.Looks (model X.prog X.w) h3 (typeOf (.ref a)) cls := fun A Q E s k q => wpAny_typeOf_ref (k _ _ he3) (by rw [hz3.1]; exact q)
    have LM := PySem.W.exm_one (M := model X.prog X.w) (J3.kIn) LT hb1
    have test : ∀ {Q : Value → Shared → Prop} {E : Value → Shared → Prop}, Q c { s' with heap := h3 } → wpAny (model X.prog X.w) (X.A.mark (some (.ref a))) (eval (.Name x np) X.env) Q E { s' with heap := h3 } := fun {Q E} q => by
      obtain ⟨hg, hdbg, hm | ⟨hm, hv, hnn⟩⟩ := hc
      · exact ld_glob (X := X.suite a ((a, oe3) :: (X.pn ++ pins))) S3 hg hm q hdbg
      · exact ld_blt (X := X.suite a ((a, oe3) :: (X.pn ++ pins))) S3 hg hm hv q hnn hdbg
    refine test (LM.here ?_)
    cases b with
    | true =>
      refine codeAny_handlers_suite_as ?_
      refine HandSPX.lands_againZ fl3 fun h4 fl4 up4 => ?_
      have J4 : Inv X pins σ' H' { s' with heap := h4 } := J.landed nb fl4.1 ((up.trans up3).trans up4) os ag
      obtain ⟨oe4, vs4, he4, hz4, hd4⟩ := fl4.there
      have JK : Inv X pins σ' (upd H' a (EX oe4 a)) { s' with heap := h4 } := Sh.Inv.keepE J J4 hnI na hx0 he4
      have S4 : Inv (X.suite a (X.pn ++ pins)) [] σ' (upd H' a (EX oe4 a)) { s' with heap := h4 } := Sh.Inv.suiteE JK
      refine store_ok (X := X.suite a (X.pn ++ pins)) (v := .ref a) S4 hN hi hloc rfl (fun s5 S5 => ?_) (.inr hln)
      refine wpAny_mono ((hsu a (X.pn ++ pins)).run [] s5 _ _ _ S5 (hyes rfl a oe4 na hz4 ⟨_, hd4⟩)) (fun f s6 hsp => ?_) (fun _ _ z => False.elim z)
      have end_ : ∀ {σ6 : L2.St} {H6 : Hp} {Q : Shared → Prop}, Inv (X.suite a (X.pn ++ pins)) [] σ6 H6 s6 → (∀ s7, Inv X pins (σ6.set i none) H6 s7 → Q s7) →
          wpAny (model X.prog X.w) X.A (do bindName X.env n .none; unbindBehindTheSuite X.env n pos') (fun _ s7 => Q s7) X.xe s6 := fun {σ6 H6 Q} S6 hq => gone_ok (Sh.Inv.unsuiteE S6 ok) hN hi hln hq
      cases f with
      | next =>
        obtain ⟨σ6, H6, S6, q6⟩ := hsp
        exact end_ S6 fun s7 J7 => ⟨_, _, J7, q6⟩
      | brk =>
        obtain ⟨σ6, H6, S6, q6⟩ := hsp
        exact end_ S6 fun s7 J7 => ⟨_, _, J7, q6⟩
      | cont =>
        obtain ⟨σ6, H6, S6, q6⟩ := hsp
        exact end_ S6 fun s7 J7 => ⟨_, _, J7, q6⟩
      | ret u =>
        obtain ⟨v6, σ6, H6, S6, r6, q6⟩ := hsp
        exact end_ S6 fun s7 J7 => ⟨_, _, _, J7, r6, q6⟩
    | false =>
      obtain ⟨b2, hb2, hyes2, hno2⟩ := hno rfl
      show wpAny _ X.A (handleBy (.ref a) X.env [.ExceptHandler (some (.Name x2 np2)) (some n2) (b₁ :: suite2) pos2]) _ _ _
      refine wpAny_handleBy_cons (codeAny_handlers_test ?_) (by intro q; cases q)
      have LM2 := PySem.W.exm_one (M := model X.prog X.w) (J3.kIn) LT hb2
      have test2 : ∀ {Q : Value → Shared → Prop} {E : Value → Shared → Prop}, Q c2 { s' with heap := h3 } → wpAny (model X.prog X.w) (X.A.mark (some (.ref a))) (eval (.Name x2 np2) X.env) Q E { s' with heap := h3 } := fun {Q E} q => by
        obtain ⟨hg, hdbg, hm | ⟨hm, hv, hnn⟩⟩ := hc2
        · exact ld_glob (X := X.suite a ((a, oe3) :: (X.pn ++ pins))) S3 hg hm q hdbg
        · exact ld_blt (X := X.suite a ((a, oe3) :: (X.pn ++ pins))) S3 hg hm hv q hnn hdbg
      refine test2 (LM2.here ?_)
      cases b2 with
      | true =>
        refine codeAny_handlers_suite_as ?_
        refine HandSPX.lands_againZ fl3 fun h4 fl4 up4 => ?_
        have J4 : Inv X pins σ' H' { s' with heap := h4 } := J.landed nb fl4.1 ((up.trans up3).trans up4) os ag
        obtain ⟨oe4, vs4, he4, hz4, hd4⟩ := fl4.there
        have JK : Inv X pins σ' (upd H' a (EX oe4 a)) { s' with heap := h4 } := Sh.Inv.keepE J J4 hnI na hx0 he4
        have S4 : Inv (X.suite a (X.pn ++ pins)) [] σ' (upd H' a (EX oe4 a)) { s' with heap := h4 } := Sh.Inv.suiteE JK
        refine store_ok (X := X.suite a (X.pn ++ pins)) (v := .ref a) S4 hN hi2 hloc2 rfl (fun s5 S5 => ?_) (.inr hln2)
        refine wpAny_mono ((hsu2 a (X.pn ++ pins)).run [] s5 _ _ _ S5 (hyes2 rfl a oe4 na hz4 ⟨_, hd4⟩)) (fun f s6 hsp => ?_) (fun _ _ z => False.elim z)
        have end_ : ∀ {σ6 : L2.St} {H6 : Hp} {Q : Shared → Prop}, Inv (X.suite a (X.pn ++ pins)) [] σ6 H6 s6 → (∀ s7, Inv X pins (σ6.set i2 none) H6 s7 → Q s7) →
            wpAny (model X.prog X.w) X.A (do bindName X.env n2 .none; unbindBehindTheSuite X.env n2 pos2) (fun _ s7 => Q s7) X.xe s6 := fun {σ6 H6 Q} S6 hq => gone_ok (Sh.Inv.unsuiteE S6 ok) hN hi2 hln2 hq
        cases f with
        | next =>
          obtain ⟨σ6, H6, S6, q6⟩ := hsp
          exact end_ S6 fun s7 J7 => ⟨_, _, J7, q6⟩
        | brk =>
          obtain ⟨σ6, H6, S6, q6⟩ := hsp
          exact end_ S6 fun s7 J7 => ⟨_, _, J7, q6⟩
        | cont =>
          obtain ⟨σ6, H6, S6, q6⟩ := hsp
          exact end_ S6 fun s7 J7 => ⟨_, _, J7, q6⟩
        | ret u =>
          obtain ⟨v6, σ6, H6, S6, r6, q6⟩ := hsp
          exact end_ S6 fun s7 J7 => ⟨_, _, _, J7, r6, q6⟩
      | false =>
        show wpAny _ X.A (handleBy (.ref a) X.env []) _ _ _
        refine wpAny_handleBy_nil ?_
        obtain ⟨k1, k2, k3, oe, vs, T, oT, ts', he, hz, hd, h1, hr⟩ := id fl3
        unfold PySem.passOn
        refine wpAny_bind (wpAny_field he hd h1 ?_)
        rw [if_neg (show ¬ ((Value.ref T == Value.none) = true) from by simp)]
        have fin : wpAny (model X.prog X.w) X.A (setFlight (.ref a) X.env.frame) (fun _ s4 => wpAny (model X.prog X.w) X.A (throw (.ref a) : Sem Flow) (SP X pins D) X.xe s4) X.xe { s' with heap := h3 } := by
          rw [hf]
          refine HandSPX.setFlight_upZ fl3 fun h4 hh4 up4 => wpAny_throw (tk _ _ ?_)
          exact ⟨a, B, sI, pins, σ', H', cls, d, rfl, J, nb, (up.trans up3).trans up4, .inr (.inr (by rw [hs]; exact hh4)), na, os, ag, hno2 rfl⟩
        first
          | exact wpAny_bind (wpAny_pure (wpAny_bind fin))
          | exact wpAny_bind fin
  · cases f with
    | next =>
      obtain ⟨σ', H', J', q⟩ := hsp
      exact wpAny_execs_nil ⟨σ', H', J'.ofTry ok, q⟩
    | brk =>
      obtain ⟨σ', H', J', q⟩ := hsp
      exact ⟨σ', H', J'.ofTry ok, q⟩
    | cont =>
      obtain ⟨σ', H', J', q⟩ := hsp
      exact ⟨σ', H', J'.ofTry ok, q⟩
    | ret u =>
      obtain ⟨v, σ', H', J', r, q⟩ := hsp
      exact ⟨v, σ', H', J'.ofTry ok, r, q⟩
end
end Sh
namespace Sh
open PySem PySem.Spec PySem.Calls PyProof.Rows L2
def tTryK2 (K : PySem.W.Frag) (c c2 : Value) (i i2 : Nat) (tb : WX → TS) (ts ts2 : TS) (Wout : WX) : TS := fun D σ H => tb (wAsK K c i ts (wAsK K c2 i2 ts2 Wout D) D) D σ H
theorem g_tryK2 {X : Cx} {K : PySem.W.Frag} (hK : X.K = K) {x n x2 n2 : Str} {c c2 : Value} {i i2 : Nat} {body suite suite2 : List Stmt} {b₀ b₁ : Stmt} {np pos pos' np2 pos2 : Pos} {tb : WX → TS} {ts ts2 : TS} {Wout : WX} (hx0 : X.ex = []) (hs : X.stack = X.env :: X.outer) (hf : X.env.frame = some X.env.locals) (hN : X.N.Nodup) (hi : X.N[i]? = some n) (hln : X.env.kindOf n = some .local) (hc : Names X x c) (hi2 : X.N[i2]? = some n2) (hln2 : X.env.kindOf n2 = some .local) (hc2 : Names X x2 c2) (tk : Takes X Wout)
    (hb : ∀ (W : WX) (pn : List (Addr × Obj)) (xe : Value → Shared → Prop), Takes (X.tr pn xe) W → PassesOwn (model X.prog X.w) X.A X.env xe → PSs (X.tr pn xe) body (tb W))
    (hsu : ∀ (a : Addr) (pn : List (Addr × Obj)), PSs (X.suite a pn) (b₀ :: suite) ts) (hsu2 : ∀ (a : Addr) (pn : List (Addr × Obj)), PSs (X.suite a pn) (b₁ :: suite2) ts2) :
    PS X (.Try body [.ExceptHandler (some (.Name x np)) (some n) (b₀ :: suite) pos', .ExceptHandler (some (.Name x2 np2)) (some n2) (b₁ :: suite2) pos2] [] [] pos) (tTryK2 K c c2 i i2 tb ts ts2 Wout) := by
  subst hK
  exact ps_tryK2 hx0 hs hf hN hi hln hc hi2 hln2 hc2 tk hb hsu hsu2
/-- what a suite hands on -/
abbrev DE.sui (E : DE) (i : Nat) : DE := { nx := fun ds b => E.nx (ds.set i .un) b, rt := E.rt, bk := fun ds b => E.bk (ds.set i .un) b, ct := fun ds b => E.ct (ds.set i .un) b, ro := E.ro, ro2 := E.ro2 }
theorem w_tryK2 {G : Gx} {b : Nat} {ds : List Sd} {E : DE} {c c2 : Value} {i i2 : Nat} {tb : WX → TS} {ts ts2 : TS} {Wout : WX} (HX : Addr → List (Str × D) → List Sd → Nat → Prop) (no : ∀ s ∈ ds, isOwn s = false) (ho : E.ro = false)
    (h : ∀ (W : WX) (H : Hp) (M : Addr → Prop), (⟨G.K, H, M, W, HX, true⟩ : Gx).Acc → Wt ⟨G.K, H, M, W, HX, true⟩ b (tb W) ds E)
    (hH : ∀ C fs ds' b', HX C fs ds' b' → (PySem.W.exmOne G.K (.ref C) c = some true ∧ Wt G b' ts (ds'.set i (.dat (.exc C fs))) (E.sui i)) ∨ (PySem.W.exmOne G.K (.ref C) c = some false ∧ PySem.W.exmOne G.K (.ref C) c2 = some true ∧ Wt G b' ts2 (ds'.set i2 (.dat (.exc C fs))) (E.sui i2))) :
    Wt G b (tTryK2 G.K c c2 i i2 tb ts ts2 Wout) ds E := fun gs M H σ S Dn w => by
  have S0 := S.enter no
  refine h _ H M (fun gs1 M1 b1 H1 σ1 ds1 C dd fsV fs S1 h1 h2 h3 h4 h5 => ?_) [] M H σ S0 Dn ⟨fun M' b' H' σ' ds' S' e => w.nx M' b' H' σ' ds' (S.under S') e, fun M' b' H' σ' ds' v d S' e r o => w.rt M' b' H' σ' ds' v d (S.under S') e (r.mono (msk_sub S.m0)) (fun z => by rw [ho] at z; cases z), fun M' b' H' σ' ds' S' e => w.bk M' b' H' σ' ds' (S.under S') e, fun M' b' H' σ' ds' S' e => w.ct M' b' H' σ' ds' (S.under S') e⟩
  have S2 := S.under S1
  have go : ∀ (i : Nat) (ts : TS), Wt G b1 ts (ds1.set i (.dat (.exc C fs))) (E.sui i) → ∀ a oe, H1 a = none → Zc (.ref C) (some dd) oe → (∃ vs, oe.data = .fields vs) →
      ts { nx := fun σ' H' => Dn.nx (σ'.set i none) H', rt := Dn.rt, bk := fun σ' H' => Dn.bk (σ'.set i none) H', ct := fun σ' H' => Dn.ct (σ'.set i none) H' } (σ1.set i (some (.ref a))) (upd H1 a (EX oe a)) := fun i ts g2 a oe ha hz hf => by
    have e2 : Ext H1 (upd H1 a (EX oe a)) := Ext.new ha
    have S3 := S2.step e2 (S2.lim.upd fun _ z => nomatch z)
    have ndd : dd ≠ a := fun z => by rw [z, ha] at h1; cases h1
    have rp : Rp G.K (msk M1 (upd H1 a (EX oe a))) (.ref a) (.exc C fs) := .exc ⟨msk_new S2.liv ha, _, rfl⟩ hz hf (by rw [msk_no h3, upd_ne ndd]; exact h1) (RpF.mono (msk_mono e2.toKp) h4)
    exact g2 gs M1 _ _ (S3.set (i := i) rp) _ ⟨fun M b H σ ds S e => w.nx M b H _ _ (S.forget i none) e, w.rt, fun M b H σ ds S e => w.bk M b H _ _ (S.forget i none) e, fun M b H σ ds S e => w.ct M b H _ _ (S.forget i none) e⟩
  rcases hH C fs ds1 b1 h5 with ⟨g1, g2⟩ | ⟨g1, g3, g2⟩
  · exact ⟨true, g1, fun _ => go i ts g2, fun z => nomatch z⟩
  · exact ⟨false, g1, fun z => (nomatch z), fun _ => ⟨true, g3, fun _ => go i2 ts2 g2, fun z => nomatch z⟩⟩
end Sh
namespace Sh
open PySem PySem.Spec PySem.Calls PyProof.Rows L2
section
variable {G : Gx} {p : Bool} {b b' b1 b2 n m : Nat} {t tk : TA} {ds : List Sd} {F : Fd} {es fs : List D}
/-- calls that may raise -/
theorem evs_calX (ha : EaD G p b b1 t ds es) (hn : es.length = n) (hF : es.length = F.n) (hd : F.dom es) (hc : F.cost es + b' ≤ b1) (acc : G.Acc) (hp : G.pm = true → p = true) (hx : ∀ C x, F.exn es C x → G.X C x ds b') :
    EvS G p b b' (tCl n 0 (SpD G.K F) (fun vs _ => vs) (WE G.W) t tNil) ds (fun d => F.res es d) :=
  (evs_cl (F := F) (gD := fun es _ => es) (fs := []) ha ea_nil (fun _ _ _ _ _ r _ => r) rfl fun es' e => by
    subst e
    exact ⟨hn, hF, hd, hc, fun C x q => ⟨rfl, acc, hp, hx C x q⟩⟩).imp fun d ⟨es', e, q⟩ => by
    subst e
    exact q
theorem evs_calXK (ha : EaD G p b b1 t ds es) (hk : EaD G p b1 b2 tk ds fs) (hn : es.length = n) (hm : fs.length = m) (hF : (es ++ fs).length = F.n) (hd : F.dom (es ++ fs)) (hc : F.cost (es ++ fs) + b' ≤ b2) (acc : G.Acc) (hp : G.pm = true → p = true) (hx : ∀ C x, F.exn (es ++ fs) C x → G.X C x ds b') :
    EvS G p b b' (tCl n m (SpD G.K F) (fun vs zs => vs ++ zs) (WE G.W) t tk) ds (fun d => F.res (es ++ fs) d) :=
  (evs_cl (F := F) (gD := fun es fs => es ++ fs) ha hk (fun _ _ _ _ _ r q => r.append q) hm fun es' e => by
    subst e
    exact ⟨hn, hF, hd, hc, fun C x q => ⟨rfl, acc, hp, hx C x q⟩⟩).imp fun d ⟨es', e, q⟩ => by
    subst e
    exact q
theorem evs_calXD {vz : List V} {dz : List D} (hz : ∀ H : Hp, RpA G.K H vz dz) (ha : EaD G p b b1 t ds es) (hn : es.length = n) (hF : (es ++ dz).length = F.n) (hd : F.dom (es ++ dz)) (hc : F.cost (es ++ dz) + b' ≤ b1) (acc : G.Acc) (hp : G.pm = true → p = true) (hx : ∀ C x, F.exn (es ++ dz) C x → G.X C x ds b') :
    EvS G p b b' (tCl n 0 (SpD G.K F) (fun vs _ => vs ++ vz) (WE G.W) t tNil) ds (fun d => F.res (es ++ dz) d) :=
  (evs_cl (F := F) (gD := fun es _ => es ++ dz) (fs := []) ha ea_nil (fun H _ _ _ _ r _ => r.append (hz H)) rfl fun es' e => by
    subst e
    exact ⟨hn, hF, hd, hc, fun C x q => ⟨rfl, acc, hp, hx C x q⟩⟩).imp fun d ⟨es', e, q⟩ => by
    subst e
    exact q
end
end Sh

/-! Sh23: a, *b = .. of what may be raised. -/
namespace Sh
open PySem PySem.Spec PySem.Calls PyProof.Rows L2
theorem ws_star {G : Gx} {b b' : Nat} {te : TE} {ds : List Sd} {R : D → Prop} {E : DE} {is : List Nat} {n i : Nat} (h : EvS G true b b' te ds R) (hi : i < n) (hl : is.length = n)
    (k : ∀ d, R d → ∃ es, d.items = some es ∧ n ≤ es.length + 1 ∧ es.length ≤ 16384 ∧ E.nx (setAll ds is (es.take i ++ [.lst ((es.drop i).take (es.length + 1 - n))] ++ (es.drop i).drop (es.length + 1 - n))) b') : Wt G b (tAsg te (gStar G.K n i (gNames is))) ds E := fun gs M H σ S Dn w =>
  h gs M H σ S _ fun v d' H' r e l rp => by
    obtain ⟨es, hd, h2, h3, k⟩ := k d' r
    have S1 := S.step e l
    have main : ∀ a vs, v = .ref a → (SqT G.K H' a vs ∨ SqL G.K H' a vs) → RpA G.K (msk M H') vs es → gStar G.K n i (gNames is) v σ H' Dn.nx := fun a vs e1 hs ra => by
      refine ⟨a, vs, e1, hs, by rw [ra.length]; exact h2, by rw [ra.length]; exact h3, fun D hD => ?_⟩
      rw [ra.length]
      have rm : RpA G.K (msk M H') ((vs.drop i).take (es.length + 1 - n)) ((es.drop i).take (es.length + 1 - n)) := RpA.take _ (RpA.drop i ra)
      have e2 : Ext H' (upd H' D (.lst ((vs.drop i).take (es.length + 1 - n)))) := Ext.new hD
      have S2 := S1.step e2 (S1.lim.upd fun _ z => nomatch z)
      have kp := msk_mono (M := M) e2.toKp
      refine names_run is _ _ σ ds ?_ S2 (((RpA.take i ra).mono kp).append (.cons (new_lst S1.liv hD rm) .nil) |>.append ((RpA.drop _ (RpA.drop i ra)).mono kp)) fun σ' S' => w.nx M b' _ σ' _ S' k
      have := ra.length
      simp only [List.length_append, List.length_take, List.length_drop, List.length_cons, List.length_nil]
      omega
    cases rp with
    | tup hs ha => cases hd; exact main _ _ rfl (.inl (sqt_unm hs)) ha
    | lst hs ha => cases hd; exact main _ _ rfl (.inr (SqL.of (msk_of hs).2)) ha
    | _ => cases hd
end Sh
namespace Sh
open PySem PySem.Spec PySem.Calls PyProof.Rows L2
theorem ws_dropT {G : Gx} {b b' : Nat} {te : TE} {ds : List Sd} {R : D → Prop} {E : DE} (h : EvS G true b b' te ds R) (k : ∀ d, R d → E.nx ds b') : Wt G b (tDrop te) ds E := fun gs M H σ S Dn w => h gs M H σ S _ fun v d H' r e l rp => w.nx M b' H' σ ds (S.step e l) (k d r)
/-- an own list, asked for with keywords -/
theorem eo_calK {G : Gx} {b b1 b2 n m : Nat} {t tk : TA} {ds : List Sd} {F : Fd} {E : L2.St → XK} {es fs xs : List D} (ha : EaD G true b b1 t ds es) (hk : EaD G true b1 b2 tk ds fs) (h : Cal F (es ++ fs) (.lst xs)) (hn : es.length = n) (hm : fs.length = m) (ho : F.own = true := by rfl) (ho2 : F.own2 = 0 := by rfl) :
    EoD G b b2 (tCl n m (SpD G.K F) (fun vs zs => vs ++ zs) E t tk) ds xs := fun gs M H σ S Q k =>
  ha gs M H σ S _ fun vs es' H1 r1 e1 l1 rp1 => hk gs M H1 σ (S.step e1 l1) _ fun zs fs' H2 r2 e2 l2 rp2 => by
    subst r1 r2
    have S2 := (S.step e1 l1).step e2 l2
    refine ⟨by rw [rp1.length, hn], by rw [rp2.length, hm], es' ++ fs', M, b2, S2.liv, l2.mono (by rw [h.cost]; omega), (rp1.mono (msk_mono e2.toKp)).append rp2, h.n, h.dom, fun v d H3 rd e3 l3 rp3 o => ?_, fun C dd fsV x H3 rx => absurd rx (h.exn C x)⟩
    have o := o ho
    rw [ho2] at o
    obtain ⟨a, ws, ys, rfl, rfl, q1, q2, q3⟩ := o
    cases h.res _ rd
    exact k a ws _ H3 rfl ((e1.trans e2).trans e3) l3 ((e1.trans e2).free q1) q2 q3
/-! == of data and of empty dicts -/
def rEqX (K : PySem.W.Frag) : R2 := fun x y H Q => rEqD K x y H Q ∨ rEqDR x y H Q
theorem g_eqX {X : Cx} {K : PySem.W.Frag} (hK : X.K = K) {k : Nat} (hr : Room k X.A) : OpR X (compareOp .Eq) (rEqX K) := by
  subst hK
  exact (op_eqD hr.units).or (op_eqDR hr.units0)
theorem o_eqX {K : PySem.W.Frag} {x y : D} (hx : D.shp 64 x = true) (hy : D.shp 64 y = true) : Op2D K (rEqX K) x y (.bl (D.eq x y)) := Op2.inl (o_eq hx hy)
theorem o_eqXI {K : PySem.W.Frag} {i j : Int} : Op2D K (rEqX K) (.int i) (.int j) (.bl (decide (i = j))) := Op2.inl o_eqI
theorem o_eqX0 {K : PySem.W.Frag} : Op2D K (rEqX K) (.dct []) (.dct []) (.bl true) := fun N b H v u Q hN l r1 r2 k => by
  cases r1 with
  | dct ha ra =>
    cases r2 with
    | dct hb rb =>
      cases ra
      cases rb
      exact .inr ⟨⟨_, _, [], [], rfl, rfl, (rd_of ha).2, (rd_of hb).2, rfl, (fun p hp => by cases hp)⟩, k _ _ H rfl (Ext.refl H) l (.bl _)⟩
end Sh

/-! Sh24: try without a name; dict comprehensions. -/
namespace Sh
open PySem PySem.Spec PySem.Calls PyProof.Rows L2
/-- try: .. except c: .. -/
def tTryN (K : PySem.W.Frag) (c : Value) (tb : WX → TS) (ts : TS) (Wout : WX) : TS := fun D σ H => tb (wOnly K c (fun _ _ _ => ts) Wout D) D σ H
theorem g_tryN {X : Cx} {K : PySem.W.Frag} (hK : X.K = K) {x : Str} {c : Value} {body suite : List Stmt} {b₀ : Stmt} {np pos pos' : Pos} {tb : WX → TS} {ts : TS} {Wout : WX} (hs : X.stack = X.env :: X.outer) (hf : X.env.frame = some X.env.locals) (hc : Names X x c) (tk : Takes X Wout)
    (hb : ∀ (W : WX) (pn : List (Addr × Obj)) (xe : Value → Shared → Prop), Takes (X.tr pn xe) W → PassesOwn (model X.prog X.w) X.A X.env xe → PSs (X.tr pn xe) body (tb W))
    (hsu : ∀ (a : Addr) (pn : List (Addr × Obj)), PSs (X.suite a pn) (b₀ :: suite) ts) :
    PS X (.Try body [.ExceptHandler (some (.Name x np)) none (b₀ :: suite) pos'] [] [] pos) (tTryN K c tb ts Wout) := by
  subst hK
  exact ps_try_only hs hf hc tk hb fun a oe cls d pn _ _ => hsu a _
theorem w_tryN {G : Gx} {b : Nat} {ds : List Sd} {E : DE} {c : Value} {tb : WX → TS} {ts : TS} {Wout : WX} (HX : Addr → List (Str × D) → List Sd → Nat → Prop) (no : ∀ s ∈ ds, isOwn s = false) (ho : E.ro = false)
    (h : ∀ (W : WX) (H : Hp) (M : Addr → Prop), (⟨G.K, H, M, W, HX, true⟩ : Gx).Acc → Wt ⟨G.K, H, M, W, HX, true⟩ b (tb W) ds E)
    (hH : ∀ C fs ds' b', HX C fs ds' b' → PySem.W.exmOne G.K (.ref C) c = some true ∧ Wt G b' ts ds' E) :
    Wt G b (tTryN G.K c tb ts Wout) ds E := fun gs M H σ S Dn w => by
  have S0 := S.enter no
  refine h (wOnly G.K c (fun _ _ _ => ts) Wout Dn) H M (fun gs1 M1 b1 H1 σ1 ds1 C dd fsV fs S1 h1 h2 h3 h4 h5 => ?_) [] M H σ S0 Dn ⟨fun M' b' H' σ' ds' S' e => w.nx M' b' H' σ' ds' (S.under S') e, fun M' b' H' σ' ds' v d S' e r o => w.rt M' b' H' σ' ds' v d (S.under S') e (r.mono (msk_sub S.m0)) (fun z => by rw [ho] at z; cases z), fun M' b' H' σ' ds' S' e => w.bk M' b' H' σ' ds' (S.under S') e, fun M' b' H' σ' ds' S' e => w.ct M' b' H' σ' ds' (S.under S') e⟩
  obtain ⟨g1, g2⟩ := hH C fs ds1 b1 h5
  exact ⟨true, g1, fun _ a ha => g2 gs M1 _ _ (S.under S1) _ w, fun z => nomatch z⟩
end Sh

/-! Sh25: sorted({.. for .. in range(..)}) of ints, sorted of a dict with int keys. -/
namespace Sh
open PySem PySem.Spec PyProof.Rows L2 PpSet
section
variable {X : Cx}
/-- set.add of an int -/
theorem addI_ok {pins : List (Addr × Obj)} {σ : L2.St} {H : Hp} {s : Shared} {E : Value → Shared → Prop} {D : Addr} {S : Int → Bool} {n : Nat} {y : Int} {tk : Tok} {Q : Value → Shared → Prop} (I : Inv X pins σ H s) (hD : H D = some (SetO X.w D S n)) (room : n + 1 < scanBound)
    (h : ∀ s', Inv X pins σ (upd H D (SetO X.w D (fun j => S j || decide (j = y)) (if S y = true then n else n + 1))) s' → Q .none s') : wpAny (model X.prog X.w) X.A (call (.builtin "set.add") [.ref D, .int y tk]) Q E s := by
  have R := setO_get I hD
  refine setR_add R room fun h' sb new => ?_
  have he : ∃ u, h'.get? D = some u := by
    have ⟨o, _, _, _, ho, _⟩ := new
    exact ⟨o, ho⟩
  exact h _ (I.write (e := D) (t' := s.toks + 1) (by rw [hD]; trivial) (.inl rfl) (fun b u hb hu => (sb.2 b hb).trans hu) he (setO_new new))
end
section
variable {X : Cx}
/-- {elt for target in iter if ..}, elt an int: D the new set -/
def tScI (w : World) (wi : TI) (g : TG) (tt : TT) (te : TE) (vs : List Nat) : TE := fun σ H Q => wi σ H fun J H1 => ∀ D, H1 D = none → ∃ W : Nat → Nat → Hp → Prop, (∃ m, W 0 m (upd H1 D (SetO w D (fun _ => false) 0))) ∧ ∀ i m H, W i m H →
  (J.stop i H ∧ Q (.ref D) H) ∨ (J.go i H ∧ ∃ Nx : Hp → Prop, (∀ H', Nx H' → ∃ m', m' < m ∧ W (i + 1) m' H') ∧ ∀ x H', J.yld i H x H' → g x (wipe σ vs) H' fun σ2 H2 => wipe σ2 vs = wipe σ vs ∧ tt σ2 H2 fun b H3 =>
    if b = true then te σ2 H3 fun y H4 => ∃ (c : Int) (S : Int → Bool) (n : Nat), y = .int c ∧ H4 D = some (SetO w D S n) ∧ n + 1 < scanBound ∧ Nx (upd H4 D (SetO w D (fun j => S j || decide (j = c)) (if S c = true then n else n + 1))) else Nx H3)
theorem scI_core {pins : List (Addr × Obj)} {s : Shared} {σ : L2.St} {H : Hp} {Q : VK} {elt tg iter : Expr} {ifs : List Expr} {scope : Scope} {own : List (PySem.Str × Nat)} {pos pos' : Pos} {wi : TI} {g : TG} {tt : TT} {te : TE} {use : Option (Value → Sem Unit)} {Qf : Value → Shared → Prop}
    (hc : X.calm = true) (hN : X.N.Nodup) (I : Inv X pins σ H s) (hi : PI X tg iter wi) (ok : BlkOk X.N X.env.scope scope own)
    (hg : ∀ (s : Shared) (H : Hp) (C : Addr) (cl : List (PySem.Str × Addr)) (fp : List Addr), PG (X.blk s H scope (compEnvC scope cl C X.env) fp) tg g) (ht : ∀ (s : Shared) (H : Hp) (C : Addr) (cl : List (PySem.Str × Addr)) (fp : List Addr), PTs (X.blk s H scope (compEnvC scope cl C X.env) fp) ifs tt)
    (he : ∀ (s : Shared) (H : Hp) (C : Addr) (cl : List (PySem.Str × Addr)) (fp : List Addr), PE (X.blk s H scope (compEnvC scope cl C X.env) fp) elt te) (hs : ∀ x, foldedSetIterable iter X.env x = pure x)
    (h : tScI X.w wi g tt te (own.map (·.2)) σ H Q)
    (hRR : ∀ D C s' m H', Inv X pins σ H' s' → Q (.ref D) H' → s'.heap.Ns C m → FpOk X pins H' C → compPost (model X.prog X.w) X.A X.xe use Qf (.ref D) C (.ok .next) s') :
    wpAny (model X.prog X.w) X.A (comprehension (.SetComp elt [⟨tg, iter, ifs, 0⟩] scope pos) scope X.env pos' (newSet (.type "set")) false (eval iter X.env) use) Qf X.xe s := by
  have hfree : ∀ y ∈ scope.names, y.2 = .free → ∃ c, X.env.cells.lookup y.1 = some c := fun y hy e => by
    rcases ok.free y hy e with k | k
    · exact I.ok.has _ (.inl k)
    · exact I.ok.has _ (.inr k)
  refine wpAny_comprehension_free (use := use) rfl hs (closure_ok hfree) ok.kind (fun y hy e => by rw [ok.uniq y hy, e])
    (thn (hi.run pins s σ H _ I h) fun xv s1 hx => thn hx fun itv s2 h2 => ?_)
  obtain ⟨it, fp, tn, J, H2, e, I2, T, st2, f2, q⟩ := h2
  subst e
  refine newSet_ok (newEnv_comp ?_)
  generalize hD : s2.heap.objs.size = D
  have hDn : H2 D = none := I2.hok.fresh (Nat.le_of_eq hD)
  obtain ⟨W, ⟨m0, w0⟩, turn⟩ := q D hDn
  -- the new list
  generalize hs3 : ({ s2 with heap := s2.heap.push { cls := .type "set", dict := none, data := .set #[] 0 (.fresh 0 0 (!X.w.params.followText "set-order")) } } : Shared) = s3
  have I3 : Inv X pins σ (upd H2 D (SetO X.w D (fun _ => false) 0)) s3 := by
    rw [← hs3]
    refine I2.laid (t' := s2.toks) (fun b o e => Heap.get?_push_of_some _ e) (Nat.le_of_eq hD) ?_
    rw [← hD]
    exact setO_new (setR_fresh X.w)
  have h3 : s3.heap = s2.heap.push { cls := .type "set", dict := none, data := .set #[] 0 (.fresh 0 0 (!X.w.params.followText "set-order")) } := by rw [← hs3]
  have sz : ∀ b ∈ fp, b < s2.heap.objs.size := fun b hb => by
    obtain ⟨o, e, _⟩ := T.obj _ _ st2 b hb
    exact Heap.lt_size e
  have f3 : ∀ b ∈ fp, FpOk X pins (upd H2 D (SetO X.w D (fun _ => false) 0)) b ∧ b < s3.heap.objs.size := fun b hb => by
    have hlt := sz b hb
    refine ⟨⟨?_, (f2 b hb).2⟩, by rw [h3, Heap.size_push]; exact Nat.lt_succ_of_lt hlt⟩
    rw [upd_ne (by rw [← hD]; exact Nat.ne_of_lt hlt)]
    exact (f2 b hb).1
  have st3 : tn 0 s3.heap := T.keep _ _ _ st2 fun b _ o e => by rw [h3]; exact Heap.get?_push_of_some _ e
  have I4 := block_start I3 ok hN f3
  have pg := hg s3 (upd H2 D (SetO X.w D (fun _ => false) 0)) s3.heap.objs.size (cellsFrom (s3.heap.objs.size + 1) scope.names (cloFrom X.env.cells scope.names [])) fp
  have pt := ht s3 (upd H2 D (SetO X.w D (fun _ => false) 0)) s3.heap.objs.size (cellsFrom (s3.heap.objs.size + 1) scope.names (cloFrom X.env.cells scope.names [])) fp
  have pe := he s3 (upd H2 D (SetO X.w D (fun _ => false) 0)) s3.heap.objs.size (cellsFrom (s3.heap.objs.size + 1) scope.names (cloFrom X.env.cells scope.names [])) fp
  show codeAny _ _ (.compStart (.SetComp elt [⟨tg, iter, ifs, 0⟩] scope pos) 0 (.ref it) (.ref D) (compEnvC scope (cellsFrom (s3.heap.objs.size + 1) scope.names (cloFrom X.env.cells scope.names [])) s3.heap.objs.size X.env)) (compPost (model X.prog X.w) X.A X.xe use Qf (.ref D) s3.heap.objs.size) { s3 with heap := pushCells (s3.heap.push { cls := .type "dict", data := .dict #[] }) scope.names }
  have nfp : ∀ b ∈ fp, (upd H2 D (SetO X.w D (fun _ => false) 0)) b = none := fun b hb => (f3 b hb).1.1
  generalize hce : compEnvC scope (cellsFrom (s3.heap.objs.size + 1) scope.names (cloFrom X.env.cells scope.names [])) s3.heap.objs.size X.env = ce at I4 pg pt pe ⊢
  have cL : ce.locals = s3.heap.objs.size := by subst hce; rfl
  generalize hH3 : upd H2 D (SetO X.w D (fun _ => false) 0) = H3 at I3 I4 pg pt pe w0 nfp f3
  generalize hs4 : ({ s3 with heap := pushCells (s3.heap.push { cls := .type "dict", data := .dict #[] }) scope.names } : Shared) = s4 at I4 ⊢
  have st4 : tn 0 s4.heap := T.keep _ _ _ st3 fun b _ o e => by rw [← hs4]; exact pushCells_keeps _ _ _ _ (Heap.get?_push_of_some _ e)
  have stat : ∀ {σ' : L2.St} {H' : Hp} {s' : Shared}, Inv (X.blk s3 H3 scope ce fp) [] σ' H' s' → (∀ b ∈ fp, H' b = none) → ∀ b ∈ fp, FpOk (X.blk s3 H3 scope ce fp) [] H' b := fun {σ' H' s'} I' hn b hb =>
    ⟨hn b hb, (I'.ok.exf b hb).1, I'.ok.exfs b hb, .inl hb, fun x c e => (I'.ok.exf b hb).2 x c e, fun p hp => absurd (show p ∈ ([] : List (Addr × Obj)) ++ [] from hp) (by simp)⟩
  have loop : codeAny (model X.prog X.w) X.A (.compLoop (.SetComp elt [⟨tg, iter, ifs, 0⟩] scope pos) 0 (.ref it) (.ref D) ce) (compPost (model X.prog X.w) X.A X.xe use Qf (.ref D) s3.heap.objs.size) s4 := by
    refine compLoopS_any (fun n s' => ∃ i H', Inv (X.blk s3 H3 scope ce fp) [] (wipe σ (own.map (·.2))) H' s' ∧ tn i s'.heap ∧ (∀ b ∈ fp, H' b = none) ∧ W i n H') ?_ m0 ⟨0, H3, I4, st4, nfp, w0⟩
    rintro n s5 ⟨i, H5, I5, st5, n5, w5⟩
    rcases turn i n H5 w5 with ⟨stop, qq⟩ | ⟨go, Nx, hNx, step⟩
    · have td := T.done (X.blk s3 H3 scope ce fp) rfl rfl rfl hc i [] s5 _ H5 (fun _ _ => False) I5 (stat I5 n5) st5 stop
      refine thnF td fun r s6 ⟨hr, I6⟩ => ?_
      subst hr
      -- back in the def's context
      have I7 : Inv X pins σ H5 s6 := I3.call' (ch := fp) I6.os I6.base I6.hok I6.bare fun b hb => ⟨(f3 b hb).1.2.2.2.1, (f3 b hb).1.2.1, (f3 b hb).1.2.2.2.2.1, (f3 b hb).1.2.2.2.2.2⟩
      have nC : H5 s3.heap.objs.size = none := by
        have z : H5 ce.locals = none := I6.free
        rw [cL] at z
        exact z
      obtain ⟨m, hn, _⟩ := I6.loc
      have hn : s6.heap.Ns ce.locals m := hn
      rw [cL] at hn
      exact hRR D s3.heap.objs.size s6 m H5 I7 qq hn (I3.fpOk (Nat.le_refl _) nC)
    · have ti := T.item (X.blk s3 H3 scope ce fp) rfl rfl rfl hc i [] s5 _ H5 (fun _ _ => False) I5 (stat I5 n5) st5 go
      refine thnF ti fun r s6 ⟨u, hr, h6⟩ => ?_
      subst hr
      refine thnF h6 fun _ s7 ⟨x, H7, I7, r7, y7, st7, n7⟩ => ?_
      have I7' := I7.pinned (stat I7 n7) (T.obj _ _ st7)
      refine thnF (pg.run _ s7 _ H7 x u _ I7' r7 (step x H7 y7)) fun _ s8 ⟨σ8, H8, I8, hw8, q8⟩ => ?_
      refine thnF (pt.run _ s8 σ8 H8 _ I8 q8) fun b s9 ⟨H9, I9, q9⟩ => ?_
      -- the turn's end
      have fin : ∀ {s' : Shared} {H' : Hp}, Inv (X.blk s3 H3 scope ce fp) ([] ++ pinsAt fp s7.heap) σ8 H' s' → Nx H' → ∃ m, m < n ∧ ∃ i H', Inv (X.blk s3 H3 scope ce fp) [] (wipe σ (own.map (·.2))) H' s' ∧ tn i s'.heap ∧ (∀ b ∈ fp, H' b = none) ∧ W i m H' := fun {s' H'} I' nx => by
        obtain ⟨m', hm, w'⟩ := hNx H' nx
        have pin' : ∀ b ∈ fp, ∀ o, s7.heap.get? b = some o → s'.heap.get? b = some o ∧ H' b = none := fun b hb o e =>
          let z := I'.pin (b, o) (List.mem_append_right _ (List.mem_append_right _ (mem_pinsAt hb e)))
          ⟨z.1, z.2.1⟩
        have hl : (wipe σ (own.map (·.2))).length = σ8.length := by rw [← hw8, wipe_length]
        refine ⟨m', hm, i + 1, H', (I'.unpinned (pins := [])).weak hl (fun j v e => ?_), T.keep _ _ _ st7 fun b hb o e => (pin' b hb o e).1, fun b hb => ?_, w'⟩
        · rw [← hw8] at e
          exact (wipe_some e).1
        · obtain ⟨o, e, _⟩ := T.obj _ _ st7 b hb
          exact (pin' b hb o e).2
      cases b with
      | false =>
        simp only [Bool.false_eq_true, if_false] at q9 ⊢
        exact fin I9 q9
      | true =>
        simp only [if_true] at q9 ⊢
        refine thnF (pe.run _ s9 σ8 H9 _ I9 q9) fun z s10 ⟨yv, H10, I10, r10, cb, S0, n0, ey, hD10, hz10, nx⟩ => ?_
        subst ey
        obtain ⟨tk, rfl⟩ := r10
        exact addI_ok (X := X.blk s3 H3 scope ce fp) I10 hD10 hz10 fun s11 I11 => fin I11 nx
  exact codeAny_compStart_set loop (T.self X.A 0 _ _ _ st4 loop)
/-- as a value -/
theorem pe_scI {elt tg iter : Expr} {ifs : List Expr} {scope : Scope} {own : List (PySem.Str × Nat)} {pos : Pos} {wi : TI} {g : TG} {tt : TT} {te : TE} (hc : X.calm = true) (hN : X.N.Nodup) (hi : PI X tg iter wi) (ok : BlkOk X.N X.env.scope scope own)
    (hg : ∀ (s : Shared) (H : Hp) (C : Addr) (cl : List (PySem.Str × Addr)) (fp : List Addr), PG (X.blk s H scope (compEnvC scope cl C X.env) fp) tg g) (ht : ∀ (s : Shared) (H : Hp) (C : Addr) (cl : List (PySem.Str × Addr)) (fp : List Addr), PTs (X.blk s H scope (compEnvC scope cl C X.env) fp) ifs tt)
    (he : ∀ (s : Shared) (H : Hp) (C : Addr) (cl : List (PySem.Str × Addr)) (fp : List Addr), PE (X.blk s H scope (compEnvC scope cl C X.env) fp) elt te) (hs : ∀ x, foldedSetIterable iter X.env x = pure x := by intro _; rfl) :
    PE X (.SetComp elt [⟨tg, iter, ifs, 0⟩] scope pos) (tScI X.w wi g tt te (own.map (·.2))) := by
  refine ⟨fun pins s σ H Q I h => ?_⟩
  rw [eval_SetComp]
  refine scI_core hc hN I hi ok hg ht he hs h fun D C s' m H' I' q hn f => ⟨m, hn, fun h'' sb => ?_⟩
  obtain ⟨f0, f1, f2, f3, f4, f5⟩ := f
  exact ⟨.ref D, H', I'.turned (t' := s'.toks) (fun b o hb e => (sb.2 b hb).trans e) f0 f1 f3 f4 f5, rfl, q⟩
end
/-- sorted(s) of a set of ints that nothing knows behind it -/
def rSortedSetF (w : World) : List V → Hp → VK → Prop := fun vs H Q => ∃ (a : Addr) (S : Int → Bool) (n : Nat), vs = [V.ref a] ∧ H a = some (SetO w a S n) ∧ n < 64 ∧
  ∀ (ns : List Int) (p : Addr) (o : Obj), ns.Pairwise (· < ·) → (∀ k : Int, k ∈ ns ↔ S k = true) → H p = none → Q (.ref p) (upd (upd H a (EX o a)) p (.lst (ns.map V.int)))
theorem cr_sortedSetF {X : Cx} (hc : X.calm = true) : CallR X (.builtin "sorted") (rSortedSetF X.w) := by
  intro pins s σ H vs us Q I r h
  obtain ⟨a, S, n, rfl, ha, h64, q⟩ := h
  have R := setO_get I ha
  rw [Vals.ref1 r]
  refine sorted_set R (I.ok.hd hc) h64 fun s' p out c ns k g o hp hg hi hs hm hl => ?_
  have hlen : (ns.map V.int).length ≤ sizeLine := by rw [List.length_map, hl, sizeLine_eq]; omega
  have hn : H p = none := I.hok.fresh hp
  have J : Inv X pins σ (upd H p (.lst (ns.map V.int))) { s with heap := s'.heap, gens := s'.gens, drawn := s'.drawn, toks := s'.toks } :=
    I.call (ch := []) (Un.laid k hp hn) (I.hok.laid k hp ⟨hlen, out.toList, c, vals_of_ints hi, hg⟩) (by rw [g]; exact I.bare) (fun _ z => nomatch z)
  have e : s' = { s with heap := s'.heap, gens := s'.gens, drawn := s'.drawn, toks := s'.toks } := by
    cases s'
    cases s
    cases o
    rfl
  rw [e]
  obtain ⟨oa, _, _, _, hoa, _⟩ := id R
  have hoa' := k a oa hoa
  have npa : a ≠ p := fun z => by rw [z, hn] at ha; cases ha
  have ha2 : (upd H p (.lst (ns.map V.int))) a = some (SetO X.w a S n) := by rw [upd_ne npa]; exact ha
  have J2 := J.write (x := a) (e := a) (o := EX oa a) (h' := s'.heap) (t' := s'.toks) (by rw [ha2]; trivial) (.inl rfl) (fun b u hb hu => hu) ⟨oa, hoa'⟩ (ex_ok hoa')
  have e2 : upd (upd H p (.lst (ns.map V.int))) a (EX oa a) = upd (upd H a (EX oa a)) p (.lst (ns.map V.int)) := by
    funext b
    by_cases h1 : b = a
    · subst h1
      rw [upd_same, upd_ne npa, upd_same]
    · rw [upd_ne h1]
      by_cases h2 : b = p
      · subst h2
        rw [upd_same, upd_same]
      · rw [upd_ne h2, upd_ne h2, upd_ne h1]
  rw [e2] at J2
  exact ⟨.ref p, _, J2, rfl, q ns p oa hs hm hn⟩
theorem g_sortSc {X : Cx} {w : World} {K : PySem.W.Frag} (hw : X.w = w) {elt tg iter : Expr} {ifs : List Expr} {scope : Scope} {own : List (PySem.Str × Nat)} {p pos pos2 : Pos} {wi : TI} {g : TG} {tt : TT} {te : TE} (hgl : Gl X "sorted") (hm : X.mg "sorted" = none) (hc : X.calm = true) (hN : X.N.Nodup) (hi : PI X tg iter wi) (ok : BlkOk X.N X.env.scope scope own)
    (hg : ∀ (s : Shared) (H : Hp) (C : Addr) (cl : List (PySem.Str × Addr)) (fp : List Addr), PG (X.blk s H scope (compEnvC scope cl C X.env) fp) tg g) (ht : ∀ (s : Shared) (H : Hp) (C : Addr) (cl : List (PySem.Str × Addr)) (fp : List Addr), PTs (X.blk s H scope (compEnvC scope cl C X.env) fp) ifs tt)
    (he : ∀ (s : Shared) (H : Hp) (C : Addr) (cl : List (PySem.Str × Addr)) (fp : List Addr), PE (X.blk s H scope (compEnvC scope cl C X.env) fp) elt te) (hs : ∀ x, foldedSetIterable iter X.env x = pure x := by intro _; rfl) :
    PE X (.Call (.Name "sorted" p) [.SetComp elt [⟨tg, iter, ifs, 0⟩] scope pos] [] pos2) (tCB (rSortedSetF w) (tCons (tScI w wi g tt te (own.map (·.2))) tNil)) := by
  subst hw
  exact pe_callB (cr_sortedSetF hc) hgl hm boot_sorted (pa_cons (pe_scI hc hN hi ok hg ht he hs) pa_nil)
/-! ### by data: the items of the block leave the heap as it is -/
def EvP (G : Gx) (te : TE) (ds : List Sd) (d : D) : Prop := ∀ (M : Addr → Prop) (H : Hp) (σ : List (Option V)), σ.length = ds.length → (∀ (i : Nat) (s : Option V) (e : Sd), σ[i]? = some s → ds[i]? = some e → SlOk G.K M H s e) → ∀ Q : VK, (∀ v, Rp G.K (msk M H) v d → Q v H) → te σ H Q
section
variable {G : Gx} {ds : List Sd} {i : Nat} {d : D} {te ta tb : TE} {xs : List D} {m n : Int}
theorem evp_var (h : ds[i]? = some (.dat d)) : EvP G (tVar i) ds d := fun M H σ hl S Q k => by
  have hi : i < σ.length := by
    rw [hl]
    exact (List.getElem?_eq_some_iff.mp h).1
  obtain ⟨v, e, r⟩ := S i _ _ (List.getElem?_eq_getElem hi) h
  exact ⟨v, by rw [List.getElem?_eq_getElem hi, e], k v r⟩
theorem evp_ixL (h1 : EvP G ta ds (.lst xs)) (h2 : EvP G tb ds (.int m)) (h : L2.atI xs m = some d) : EvP G (tOp (rIxA G.K) ta tb) ds d := fun M H σ hl S Q k =>
  h1 M H σ hl S _ fun v r1 => h2 M H σ hl S _ fun u r2 => by
    cases r2
    cases r1 with
    | lst ha r =>
      obtain ⟨w, g1, g2⟩ := r.atI h
      exact .inl ⟨_, _, m, w, rfl, rfl, SqL.of (msk_of ha).2, g1, k _ g2⟩
theorem evp_mod (h1 : EvP G ta ds (.int m)) (h2 : EvP G tb ds (.int n)) (h : 0 < n) : EvP G (tOp rModA ta tb) ds (.int (m % n)) := fun M H σ hl S Q k =>
  h1 M H σ hl S _ fun v r1 => h2 M H σ hl S _ fun u r2 => by
    cases r1
    cases r2
    exact ⟨m, n, rfl, rfl, h, k _ (.int _)⟩
theorem evp_len (h1 : EvP G ta ds (.lst xs)) : EvP G (tCB (rLen G.K) (tCons ta tNil)) ds (.int (xs.length : Int)) := fun M H σ hl S Q k =>
  h1 M H σ hl S _ fun v r1 => by
    cases r1 with
    | @lst a vs _ ha r =>
      refine ⟨_, _, rfl, ?_, k _ (.int _)⟩
      have e := r.length
      rw [← e]
      exact .inl ⟨vs, SqL.of (msk_of ha).2, rfl⟩
end
section
theorem len_sub : ∀ {l L : List Int}, l.Nodup → (∀ k ∈ l, k ∈ L) → l.length ≤ L.length
  | [], _, _, _ => Nat.zero_le _
  | x :: l, L, hn, h => by
    obtain ⟨h1, h2⟩ := List.nodup_cons.mp hn
    have hx := h x List.mem_cons_self
    have q := len_sub (l := l) (L := L.erase x) h2 fun k hk => (List.mem_erase_of_ne fun z => h1 (by rw [← z]; exact hk)).mpr (h k (List.mem_cons_of_mem _ hk))
    rw [List.length_erase_of_mem hx] at q
    have := List.length_pos_of_mem hx
    show l.length + 1 ≤ L.length
    omega
theorem wipe_sub {σ : L2.St} (vs : List Nat) : ∀ ws : List Nat, (∀ v ∈ ws, v ∈ vs) → L2.wipe (L2.wipe σ ws) vs = L2.wipe σ vs
  | [], _ => rfl
  | v :: ws, h => by
    show L2.wipe ((L2.wipe σ ws).set v none) vs = L2.wipe σ vs
    rw [wipe_in _ _ _ _ (h v List.mem_cons_self), wipe_sub vs ws fun u hu => h u (List.mem_cons_of_mem _ hu)]
/-- sorted({e for name in range(m, n)}) -/
theorem evs_sortScR {G : Gx} {p q : Bool} {b b1 : Nat} {w : World} {ta : TA} {te : TE} {j : Nat} {vs : List Nat} {ds : List Sd} {m n : Int} (f : Nat → Int) (L : List Int) (ha : EaD G q b b1 ta ds [.int m, .int n])
    (hm : -(2 ^ 62) ≤ m ∧ m < 2 ^ 62 ∧ -(2 ^ 62) ≤ n ∧ n < 2 ^ 62) (hj : j ∈ vs) (hL : L.length < 64) (hf : ∀ i, i < (n - m).toNat → f i ∈ L)
    (he : ∀ i : Nat, i < (n - m).toNat → EvP G te ((wipeD ds vs).set j (.dat (.int (m + i)))) (.int (f i))) :
    EvS G p b b1 (tCB (rSortedSetF w) (tCons (tScI w (iRng2 ta) (gName j) tYes te vs) tNil)) ds (fun d => ∃ ns : List Int, d = .lst (ns.map .int) ∧ ns.Pairwise (· < ·) ∧ ∀ k, k ∈ ns ↔ ∃ i : Nat, i < (n - m).toNat ∧ f i = k) := fun gs M H σ S Q k => by
  refine ha gs M H σ S _ fun us es H1 r e l rp => ?_
  subst r
  cases rp with
  | cons r1 r2 =>
    cases r2 with
    | cons r2 r3 =>
      cases r3; cases r2; cases r1
      have S1 := S.step e l
      refine ⟨m, n, rfl, hm, fun D hD => ?_⟩
      generalize hN : (n - m).toNat = N at *
      refine ⟨fun i t H => t = N - i ∧ i ≤ N ∧ ∃ (F : Int → Bool) (c : List Int), H = upd H1 D (SetO w D F c.length) ∧ c.Nodup ∧ (∀ k, F k = true ↔ k ∈ c) ∧ (∀ k, k ∈ c ↔ ∃ i', i' < i ∧ f i' = k), ⟨N, by omega, Nat.zero_le _, fun _ => false, [], rfl, List.nodup_nil, (fun k => by simp), fun k => by simp⟩, ?_⟩
      rintro i t H2 ⟨rfl, hi, F, c, rfl, c1, c2, c3⟩
      have cl : c.length ≤ L.length := len_sub c1 fun k hk => by
        obtain ⟨i', h1, h2⟩ := (c3 k).mp hk
        rw [← h2]
        exact hf i' (by omega)
      by_cases hlt : i < N
      · refine .inr ⟨hlt, fun H => ∃ (F : Int → Bool) (c : List Int), H = upd H1 D (SetO w D F c.length) ∧ c.Nodup ∧ (∀ k, F k = true ↔ k ∈ c) ∧ (∀ k, k ∈ c ↔ ∃ i', i' < i + 1 ∧ f i' = k), fun H' z => ⟨N - (i + 1), by omega, rfl, hlt, z⟩, ?_⟩
        rintro x H3 ⟨rfl, rfl⟩
        refine ⟨(wipe_in _ _ _ _ hj).trans (wipe_sub vs vs fun _ h => h), ?_⟩
        show te _ _ _
        have kp : Kp H1 (upd H1 D (SetO w D F c.length)) := (Ext.new hD).toKp
        refine he i hlt M _ _ ?_ (fun a s e h1 h2 => ?_) _ fun v r => ?_
        · rw [List.length_set, List.length_set, (S1.wipe vs).len]
        · have S3 := (S1.wipe vs).set (i := j) (v := .int (m + i)) (d := .int (m + i)) (.int _)
          exact (S3.sl a s e h1 h2).mono kp
        · cases r
          refine ⟨f i, F, c.length, rfl, upd_same, Nat.lt_of_le_of_lt (Nat.succ_le_succ cl) (Nat.lt_of_lt_of_le (Nat.succ_lt_succ hL) (by decide)), ?_⟩
          have eu : ∀ o, upd (upd H1 D (SetO w D F c.length)) D o = upd H1 D o := fun o => by
            funext a
            by_cases h : a = D
            · rw [h, upd_same, upd_same]
            · rw [upd_ne h, upd_ne h, upd_ne h]
          by_cases hin : F (f i) = true
          · refine ⟨fun j => F j || decide (j = f i), c, ?_, c1, fun k => ?_, fun k => ?_⟩
            · rw [eu, if_pos hin]
            · show (F k || decide (k = f i)) = true ↔ _
              rw [Bool.or_eq_true, decide_eq_true_eq, c2 k]
              exact ⟨fun z => z.elim id fun z => by rw [z]; exact (c2 _).mp hin, .inl⟩
            · rw [c3 k]
              refine ⟨fun ⟨i', h1, h2⟩ => ⟨i', by omega, h2⟩, fun ⟨i', h1, h2⟩ => ?_⟩
              by_cases hii : i' = i
              · subst hii
                rw [← h2]
                exact (c3 _).mp ((c2 _).mp hin)
              · exact ⟨i', by omega, h2⟩
          · refine ⟨fun j => F j || decide (j = f i), f i :: c, ?_, List.nodup_cons.mpr ⟨fun z => hin ((c2 _).mpr z), c1⟩, fun k => ?_, fun k => ?_⟩
            · rw [eu, if_neg hin]; rfl
            · show (F k || decide (k = f i)) = true ↔ _
              rw [Bool.or_eq_true, decide_eq_true_eq, c2 k, List.mem_cons]
              exact ⟨fun z => z.elim .inr .inl, fun z => z.elim .inr .inl⟩
            · rw [List.mem_cons, c3 k]
              refine ⟨fun z => ?_, fun ⟨i', h1, h2⟩ => ?_⟩
              · rcases z with rfl | ⟨i', h1, h2⟩
                · exact ⟨i, by omega, rfl⟩
                · exact ⟨i', by omega, h2⟩
              · by_cases hii : i' = i
                · subst hii
                  exact .inl h2.symm
                · exact .inr ⟨i', by omega, h2⟩
      · have en : i = N := by omega
        subst en
        refine .inl ⟨Nat.le_refl _, ?_⟩
        refine ⟨D, F, c.length, rfl, upd_same, Nat.lt_of_le_of_lt cl hL, fun ns a o hs hk hn => ?_⟩
        have nD : a ≠ D := fun z => by rw [z, upd_same] at hn; cases hn
        have hn1 : H1 a = none := by rw [upd_ne nD] at hn; exact hn
        have eu : upd (upd H1 D (SetO w D F c.length)) D (EX o D) = upd H1 D (EX o D) := by
          funext a
          by_cases h : a = D
          · rw [h, upd_same, upd_same]
          · rw [upd_ne h, upd_ne h, upd_ne h]
        rw [eu]
        have e1 : Ext H1 (upd H1 D (EX o D)) := Ext.new hD
        have hn2 : (upd H1 D (EX o D)) a = none := by rw [upd_ne nD]; exact hn1
        have e2 : Ext (upd H1 D (EX o D)) (upd (upd H1 D (EX o D)) a (.lst (ns.map V.int))) := Ext.new hn2
        have l1 : Lim b1 (upd H1 D (EX o D)) := l.upd fun _ z => nomatch z
        refine k _ _ _ ⟨ns, rfl, hs, fun k => ?_⟩ (e.trans (e1.trans e2)) (l1.upd fun _ z => nomatch z) (.lst (by
          rw [msk_no (fun z => S1.mm p a z hn1)]
          exact upd_same) RpA.of_ints)
        rw [hk, c2, c3]
end
end Sh

/-! Sh26: the head by one run in the kernel: defs and facts that a Hook tells. -/
namespace Sh
open PySem PySem.Spec PyProof.Rows L2
abbrev AlS : Type := Bool × List He.FnW
def obsS (fn : List He.DefD) (ex : PySem.W.Frag → List Bool) (K : PySem.W.Frag) : AlS := ((ex K).all id && fn.all fun d => d.ok K, fn.map fun d => He.fnW K d.at_)
def valS (fn : List He.DefD) : AlS := (true, fn.map He.DefD.val)
def obsSG (n : Nat) (fn : List He.DefD) (ex : PySem.W.Frag → List Bool) (g : Addr → Option Obj) : AlS := obsS fn ex (He.frG g (He.asD g n))
def SaysS (fn : List He.DefD) (ex : PySem.W.Frag → List Bool) (K : PySem.W.Frag) : Prop := obsS fn ex K = valS fn
def hookS (n : Nat) (fn : List He.DefD) (ex : PySem.W.Frag → List Bool) : PySem.W.Hook where
  α := AlS
  obs := fun s => obsSG n fn ex s.heap.get?
  val := fun _ => valS fn
  says := fun _ h => ∃ K : PySem.W.Frag, K.In h ∧ SaysS fn ex K
  of := fun _ _ e => ⟨_, He.frG_in, e⟩
  keeps := fun _ _ _ ⟨K, hK, c⟩ k => ⟨K, PySem.W.Frag.In.keeps hK k, c⟩
theorem obsSG_eq {n : Nat} {fn : List He.DefD} {ex : PySem.W.Frag → List Bool} {g : Addr → Option Obj} {s : Shared} (h : ∀ a, g a = s.heap.get? a) : obsSG n fn ex g = (hookS n fn ex).obs s := by
  have e : g = s.heap.get? := funext h
  rw [e] <;> rfl
section
variable {fn : List He.DefD} {ex : PySem.W.Frag → List Bool} {K : PySem.W.Frag}
theorem SaysS.fact (c : SaysS fn ex K) (i : Nat) {b : Bool} (h : (ex K)[i]? = some b) : b = true := by
  have c1 := (He.ba (show ((ex K).all id && fn.all fun d => d.ok K) = true from congrArg (fun z : AlS => z.1) c)).1
  exact List.all_eq_true.mp c1 b (List.mem_of_getElem? h)
theorem SaysS.eq (c : SaysS fn ex K) (i : Nat) {p : Prop} {d : Decidable p} (h : (ex K)[i]? = some (@decide p d)) : p := of_decide_eq_true (c.fact i h)
theorem SaysS.def_ (c : SaysS fn ex K) (i : Nat) {d : He.DefD} (h : fn[i]? = some d) : ∃ fd, FunD K d.name d.qual d.params d.body d.scope (d.dvs K) (d.kws K) (He.fAd K d.at_) fd := by
  have c2 := (He.ba (show ((ex K).all id && fn.all fun d => d.ok K) = true from congrArg (fun z : AlS => z.1) c)).2
  have e : fn.map (fun d => He.fnW K d.at_) = fn.map He.DefD.val := congrArg (fun z : AlS => z.2) c
  have e2 : (fn.map fun d => He.fnW K d.at_)[i]? = (fn.map He.DefD.val)[i]? := by rw [e]
  rw [List.getElem?_map, List.getElem?_map, h] at e2
  exact He.DefD.funD (Option.some.inj e2) (List.all_eq_true.mp c2 d (List.mem_of_getElem? h))
end
theorem fun_of {K : PySem.W.Frag} {x qual : Str} {st : Stmt} {f : Addr} {fd : FuncData} (F : FunD K x qual (defArgs st) (defBody st) (defScope st) [] [] f fd) : Fun K x qual st f fd := by
  obtain ⟨oc, od, dV, kV, doc, pm, an, cdv, ct, osl, e, lk, hcd, hD, hK⟩ := F.ex
  rcases hD with ⟨_, rfl⟩ | ⟨z, _⟩
  · exact ⟨⟨oc, od, kV, doc, pm, an, cdv, ct, osl, e, lk, hcd⟩, F.kp⟩
  · exact absurd rfl z
/-- an own class over ValueError -/
def excB (K : PySem.W.Frag) (C : Addr) : Bool := match K.lookup C with
  | some ⟨.type c, _, .cls cd, sl⟩ => decide (c = "type") && (match cd.mro, sl.toList with
    | .ref C' :: bm, [_, _, _, _, some (.builtin n), _] => decide (C' = C) && (decide (n = "ValueError.__new__") && (!cd.hasDel && (cd.hasDict && PySem.HandSPX.refsVE bm)))
    | _, _ => false)
  | _ => false
theorem excB_ok {K : PySem.W.Frag} {C : Addr} (q : excB K C = true) : ∃ nm qn N bs bm sn sub ab col dd k0 k1 k2 k3 k5, K.lookup C = some (excClassObj nm qn C N bs bm true sn sub ab col dd k0 k1 k2 k3 k5 "ValueError.__new__") ∧ PySem.HandSPX.refsVE bm = true := by
  unfold excB at q
  split at q
  · rename_i c dd cd sl ho
    have e0 := of_decide_eq_true (He.ba q).1
    replace q := (He.ba q).2
    subst e0
    split at q
    · rename_i C' bm k0 k1 k2 k3 n k5 hm hs
      obtain ⟨h1, q⟩ := He.ba q
      obtain ⟨h2, q⟩ := He.ba q
      obtain ⟨h3, q⟩ := He.ba q
      obtain ⟨h4, h5⟩ := He.ba q
      have e1 := of_decide_eq_true h1
      have e2 := of_decide_eq_true h2
      subst e1 e2
      obtain ⟨nm, bs, mro, ns, qn, hd, sn, sub, ab, col, del⟩ := cd
      dsimp only at hm h3 h4
      subst hm h4
      have h3' : del = false := by simpa using h3
      subst h3'
      have hsl : sl = #[k0, k1, k2, k3, some (.builtin "ValueError.__new__"), k5] := by
        obtain ⟨l⟩ := sl
        simp only at hs
        rw [hs]
      subst hsl
      exact ⟨nm, qn, ns, bs, bm, sn, sub, ab, col, dd, k0, k1, k2, k3, k5, ho, h5⟩
    · cases q
  · cases q
theorem ktup_dv {K : PySem.W.Frag} {x : Str} {ns : List Int} (h : He.tupB K x (ns.map He.Dv.int) = true) (H : Hp) : Rp K H (.ref (He.ga K x)) (.tup (ns.map D.int)) := by
  have q := He.tupB_ok h H
  have e : (ns.map He.Dv.int).map (He.Dv.v K) = ns.map V.int := by
    rw [List.map_map]
    rfl
  rw [e] at q
  exact .tup q RpA.of_ints
/-- a law: what the Hook tells gives the promise; the script's bits are told -/
theorem walk_ofY {l : PySem.W.OpenLaw} {n k : Nat} {q : Program} {loose : List Str} {XP : (Str → Option Value) → Heap → Prop} {YP : World → Heap → Prop} {d : DefRec} {CX : World → CXT} {x : Str}
    (hn : l.most = some n) (hn2 : n ≤ sizeLine) (hdf : d.params.defaults = []) (hr : Room k callerA)
    (F : ∀ (w : World) (mg : Str → Option Value) (fa : Addr) (h : Heap), YP w h → h.Ns mainGlobals mg → mg d.name = some (.ref fa) →
      ∃ (K : PySem.W.Frag) (fd : FuncData) (sp : Sp), K.In h ∧ (∀ (s : Shared) (u : Value), BindsTo s fd ⟨[u], []⟩ [(x, u)]) ∧
        (∀ (H : Hp) (a : Addr) (ns : List Int), ns.length ≤ n → (∀ z ∈ ns, Builtin.Int.intBits z ≤ 1048576) → Only H → SqL K H a (ns.map V.int) → sp [.ref a] H (fun v _ => v = .bl true) fun _ _ _ => False) ∧
        ∀ base : Heap, K.In base → base.Ns mainGlobals mg → FnOk l.prog w K mg base (CX w) k fa fd [x] sp)
    (hCX : ∀ (w : World) (H : Hp) (s : Shared) (e : Value) (s' : Shared), CX w [] H s (fun _ _ _ => False) e s' → False) :
    PySem.W.WalkO q loose XP YP l.row.toRowW d [] (fun f vs => PySem.call f vs) := by
  refine Att.attach_callB hn hdf fun w s₀ s₁ mg mb fa o pm cd doc a vs ns G Y ho hd hcd hmg hobj hints hlen hbits hg => ?_
  obtain ⟨K, fd, sp, KX, hb, hsp, hF⟩ := F w mg fa _ Y G.T.g hmg
  exact law_call KX G.T.g G.T.b G.T.builtins G.T.nolimit hg hobj hints (Nat.le_trans hlen hn2) hr hF hb (fun H hO hS => hsp H a ns hlen hbits hO hS) fun H e s' => hCX w H s₁ e s'
end Sh

/-! Sh27: trees of our own in slots. -/
namespace Sh
open PySem PySem.Spec PySem.Calls PyProof.Rows L2
section
variable {K : PySem.W.Frag} {M M' : Addr → Prop} {H H' : Hp}
theorem TrL.length : ∀ {vs : List V} {ts : List Tree} {F : List Addr}, TrL K M H vs ts F → vs.length = ts.length
  | _, _, _, .nil => rfl
  | _, _, _, .cons _ q => congrArg (· + 1) (TrL.length q)
theorem TrL.app : ∀ {vs ws : List V} {ts us : List Tree} {F F' : List Addr}, TrL K M H vs ts F → TrL K M H ws us F' → TrL K M H (vs ++ ws) (ts ++ us) (F ++ F')
  | _, _, _, _, _, _, .nil, r => r
  | _, _, _, _, _, _, .cons p q, r => by rw [List.append_assoc]; exact .cons p (TrL.app q r)
/-- leaves alone -/
theorem TrL.leaves : ∀ {vs : List V} {ds : List D}, RpA K (msk M H) vs ds → TrL K M H vs (ds.map .leaf) []
  | _, _, .nil => .nil
  | _, _, .cons p q => .cons (F1 := []) (.leaf p) (TrL.leaves q)
/-- the part at k, and another one in its place -/
theorem TrL.at : ∀ {vs : List V} {ts : List Tree} {F : List Addr} {k : Nat} {t : Tree}, TrL K M H vs ts F → ts[k]? = some t →
    ∃ v F1 F0 F2, vs[k]? = some v ∧ F = F1 ++ (F0 ++ F2) ∧ Tr K M H v t F0 ∧ ∀ (M' : Addr → Prop) (H' : Hp) (v' : V) (t' : Tree) (F' : List Addr), Kp (msk M H) (msk M' H') → (∀ a, a ∈ F1 ∨ a ∈ F2 → ∀ o, H a = some o → (∀ φ, o ≠ .ext φ) → H' a = some o) → Tr K M' H' v' t' F' →
      TrL K M' H' (vs.set k v') (ts.set k t') (F1 ++ (F' ++ F2))
  | _, _, _, k, t, .nil, h => by simp at h
  | _, _, _, 0, t, .cons (F1 := Fa) (F2 := Fb) p q, h => by
    simp at h; subst h
    exact ⟨_, [], Fa, Fb, rfl, rfl, p, fun M' H' v' t' F' e hk r => .cons (F1 := F') (F2 := Fb) r (q.chg e fun a m => hk a (.inr m))⟩
  | _, _, _, k + 1, t, .cons (F1 := Fa) (F2 := Fb) p q, h => by
    obtain ⟨v, F1, F0, F2, h1, h2, h3, h4⟩ := TrL.at (k := k) q (by simpa using h)
    subst h2
    refine ⟨v, Fa ++ F1, F0, F2, by simpa using h1, by rw [List.append_assoc], h3, fun M' H' v' t' F' e hk r => ?_⟩
    rw [List.append_assoc]
    exact .cons (p.chg e fun a m => hk a (.inl (List.mem_append_left _ m))) (h4 M' H' v' t' F' e (fun a m => hk a (m.elim (fun z => .inl (List.mem_append_right _ z)) .inr)) r)
end
/-! ### new trees -/
def EvW (G : Gx) (lv : Nat) (b b' : Nat) (te : TE) (ds : List Sd) (R : D → Prop) : Prop :=
  ∀ gs M H σ, G.st gs M b H σ ds → ∀ Q : VK, (∀ v d F H', R d → Ext H H' → Lim b' H' → (∀ a ∈ F, H a = none) → F.Nodup → Tr G.K (fun c => M c ∨ c ∈ F) H' v (full lv d) F → Q v H') → te σ H Q
section
variable {G : Gx} {p : Bool} {lv b b' b1 b2 : Nat} {te ta tb : TE} {tA : TA} {ds : List Sd} {R : D → Prop} {E : DE} {i : Nat} {t t0 : Tree} {F : List Addr} {d : D}
theorem EvW.imp {R' : D → Prop} (h : EvW G lv b b' te ds R) (k : ∀ d, R d → R' d) : EvW G lv b b' te ds R' := fun gs M H σ S Q q => h gs M H σ S Q fun v d F H' r => q v d F H' (k d r)
/-- .. is data, too -/
theorem EvW.evs (h : EvW G lv b b' te ds R) : EvS G p b b' te ds R := fun gs M H σ S Q k => h gs M H σ S Q fun v d F H' r e l hF nd tr => by
  have nM : ∀ a ∈ F, ¬ M a := fun a m z => S.liv a z (hF a m)
  have q := tr.rp (M' := mmk p M G.M0) (H' := H') (msk_sub fun c hc => by
    cases p with
    | true => exact .inl hc
    | false => exact .inl (S.m0 c hc)) fun a m o ho _ => by
    rw [msk_no]
    · exact ho
    · cases p with
      | true => exact nM a m
      | false => exact fun z => nM a m (S.m0 a z)
  rw [full_d] at q
  exact k v d H' r e l q
theorem ew_dnew : EvW G (lv + 1) b b tDNewK ds (fun d => d = .dct []) := fun gs M H σ S Q k => fun q hq =>
  k _ _ [q] _ rfl (Ext.new hq) (S.lim.upd fun _ z => nomatch z) (fun a m => by rw [List.mem_singleton.mp m]; exact hq) (List.nodup_cons.mpr ⟨fun z => (nomatch z), List.nodup_nil⟩) (.node (n := .dct []) (vs := []) upd_same ⟨rfl, rfl⟩ .nil)
theorem EvO.evw {R : List D → Prop} (h : EvO G b b' te ds R) : EvW G 1 b b' te ds (fun d => ∃ xs, d = .lst xs ∧ R xs) := fun gs M H σ S Q k =>
  h gs M H σ S Q fun a vs xs H' r e l hn ha rr => k _ _ [a] H' ⟨xs, rfl, r⟩ e l (fun c m => by rw [List.mem_singleton.mp m]; exact hn) (List.nodup_cons.mpr ⟨fun z => (nomatch z), List.nodup_nil⟩) (.node (n := .lst) ha rfl (TrL.leaves (rr.mono (msk_sub fun c hc => hc.imp_right List.mem_singleton.mp))))
/-- name = .., a tree of our own from now on -/
theorem ws_tre (h : EvW G lv b b' te ds R) (k : ∀ d F, R d → E.nx (ds.set i (.tre (full lv d) F)) b') : Wt G b (tAsg te (gName i)) ds E := fun gs M H σ S Dn w =>
  h gs M H σ S _ fun v d F H' r e l hF nd tr => w.nx _ b' H' _ _ (S.adoptG (i := i) (s := some v) (sd := .tre (full lv d) F) (P := fun a => a ∈ F) hF e l (fun a m => tr.liv a m) ⟨v, rfl, fun a m => .inr m, nd, tr⟩ fun a m => m) (k d F r)
theorem Stt.treL {gs : List (V × D)} {M : Addr → Prop} {H : Hp} {σ : List (Option V)} (S : G.st gs M b H σ ds) (h : ds[i]? = some (.tre t F)) : ∃ v, σ[i]? = some (some v) ∧ (∀ a ∈ F, M a ∧ ¬ G.M0 a) ∧ F.Nodup ∧ Tr G.K M H v t F := by
  have hi : i < σ.length := by
    rw [S.len]
    exact (List.getElem?_eq_some_iff.mp h).1
  obtain ⟨v, e, m, nd, tr⟩ := S.sl i _ _ (List.getElem?_eq_getElem hi) h
  have es : σ[i]? = some (some v) := by rw [List.getElem?_eq_getElem hi, e]
  exact ⟨v, es, fun a ha => ⟨m a ha, S.ownNew i a ⟨_, _, es, h, ha⟩⟩, nd, tr⟩
/-- read: it can't be kept -/
theorem ev_tre (h : ds[i]? = some (.tre t F)) : EvD G false b b (tVar i) ds t.d := fun gs M H σ S Q k => by
  obtain ⟨v, e, m, nd, tr⟩ := S.treL h
  refine ⟨v, e, k v _ H rfl (Ext.refl H) S.lim (tr.rp (msk_sub S.m0) fun a ha o ho _ => ?_)⟩
  show msk G.M0 H a = some o
  rw [msk_no (m a ha).2]
  exact ho
/-- data from now on -/
theorem w_freezeT {ts : TS} (h : ds[i]? = some (.tre t F)) (k : Wt G b ts (ds.set i (.dat t.d)) E) : Wt G b ts ds E := fun gs M H σ S Dn w => by
  obtain ⟨v, e, m, nd, tr⟩ := S.treL h
  obtain ⟨M', _, S'⟩ := S.freezeG (i := i) (d := t.d) e fun M' hM => tr.rp (msk_sub fun c hc => (hM c hc).1) fun a ha o ho _ => by
    rw [msk_no fun z => (hM a z).2 ⟨_, _, e, h, ha⟩]
    exact ho
  exact k gs M' H σ S' Dn w
/-! ### a part of a tree -/
def EvF (G : Gx) (b b' : Nat) (te : TE) (ds : List Sd) (i : Nat) (t t0 : Tree) (put : Tree → Tree) : Prop :=
  ∀ gs M H σ F, G.st gs M b H σ ds → ds[i]? = some (.tre t F) → ∀ Q : VK, (∀ v H' r F1 F0 F2, Ext H H' → Lim b' H' → σ[i]? = some (some r) → F = F1 ++ (F0 ++ F2) → Tr G.K M H' v t0 F0 →
    (∀ (M' : Addr → Prop) (H'' : Hp) (t0' : Tree) (F0' : List Addr), Kp (msk M H') (msk M' H'') → (∀ a, a ∈ F1 ∨ a ∈ F2 → ∀ o, H' a = some o → (∀ φ, o ≠ .ext φ) → H'' a = some o) → Tr G.K M' H'' v t0' F0' → Tr G.K M' H'' r (put t0') (F1 ++ (F0' ++ F2))) → Q v H') → te σ H Q
theorem ef_var : EvF G b b (tVar i) ds i t t id := fun gs M H σ F S h Q k => by
  obtain ⟨v, e, m, nd, tr⟩ := S.treL h
  exact ⟨v, e, k v H v [] F [] (Ext.refl H) S.lim e (by simp) tr fun M' H'' t0' F0' _ _ q => by simpa using q⟩
end
section
variable {G : Gx} {p : Bool} {lv b b' b1 b2 n m c : Nat} {te : TE} {t tk : TA} {ds : List Sd} {R : D → Prop} {E : DE} {i : Nat} {d : D} {F : Fd} {Ex : L2.St → XK} {es fs : List D} {Fa : List Addr}
/-- return of a new tree -/
theorem ws_retW (h : EvW G lv b b' te ds R) (k : ∀ d, R d → E.rt d ds b') (ho : E.ro2 = lv + 2 := by rfl) : Wt G b (tRet te) ds E := fun gs M H σ S Dn w =>
  h gs M H σ S _ fun v d F H' r e l hF nd tr => by
    have nM : ∀ a ∈ F, ¬ M a := fun a m z => S.liv a z (hF a m)
    have q := tr.rp (M' := G.M0) (H' := H') (msk_sub fun c hc => .inl (S.m0 c hc)) fun a m o ho _ => by
      rw [msk_no fun z => nM a m (S.m0 a z)]
      exact ho
    rw [full_d] at q
    exact w.rt M b' H' σ ds v d (S.step e l) (k d r) q fun _ => (by
      rw [ho]
      exact ⟨F, fun a m => S.ext.free (hF a m), nd, tr.chg (msk_sub fun c hc => hc.imp (S.m0 c) id) fun a _ o ho _ => ho⟩)
/-- return of a tree of our own -/
theorem w_retT (hi : ds[i]? = some (.tre (full lv d) Fa)) (k : E.rt d ds b) (ho : E.ro2 = lv + 2 := by rfl) : Wt G b (tRet (tVar i)) ds E := fun gs M H σ S Dn w => by
  obtain ⟨v, e, m, nd, tr⟩ := S.treL hi
  have q := tr.rp (M' := G.M0) (H' := H) (msk_sub fun c hc => S.m0 c hc) fun a ha o ho _ => by
    rw [msk_no (m a ha).2]
    exact ho
  rw [full_d] at q
  refine ⟨v, e, w.rt M b H σ ds v d S k q fun _ => ?_⟩
  rw [ho]
  exact ⟨Fa, fun a ha => S.new a (m a ha).1 (m a ha).2, nd, tr.chg (msk_sub fun c hc => hc.elim (S.m0 c) fun z => (m c z).1) fun a _ o ho _ => ho⟩
/-- a call whose answer is a new tree -/
theorem ews_calK (ha : EaD G true b b1 t ds es) (hk : EaD G true b1 b2 tk ds fs) (hn : es.length = n) (hm : fs.length = m) (hF : (es ++ fs).length = F.n) (hd : F.dom (es ++ fs)) (hc : F.cost (es ++ fs) + b' ≤ b2) (hx : ∀ C x, ¬ F.exn (es ++ fs) C x) (ho : F.own = true := by rfl) (ho2 : F.own2 = lv + 2 := by rfl) :
    EvW G lv b b' (tCl n m (SpD G.K F) (fun vs zs => vs ++ zs) Ex t tk) ds (fun d => F.res (es ++ fs) d) := fun gs M H σ S Q k =>
  ha gs M H σ S _ fun vs es' H1 r1 e1 l1 rp1 => hk gs M H1 σ (S.step e1 l1) _ fun zs fs' H2 r2 e2 l2 rp2 => by
    subst r1 r2
    have S2 := (S.step e1 l1).step e2 l2
    refine ⟨by rw [rp1.length, hn], by rw [rp2.length, hm], es' ++ fs', M, b', S2.liv, l2.mono hc, (rp1.mono (msk_mono e2.toKp)).append rp2, hF, hd, fun v d H3 rd e3 l3 rp3 o => ?_, fun C dd fsV x H3 rx => absurd rx (hx C x)⟩
    have o := o ho
    rw [ho2] at o
    obtain ⟨Fn, q1, q2, q3⟩ := o
    exact k v d Fn H3 rd ((e1.trans e2).trans e3) l3 (fun a m => (e1.trans e2).free (q1 a m)) q2 q3
theorem ew_calK {z : D} (ha : EaD G true b b1 t ds es) (hk : EaD G true b1 b2 tk ds fs) (h : Cal F (es ++ fs) z) (hn : es.length = n) (hm : fs.length = m) (ho : F.own = true := by rfl) (ho2 : F.own2 = lv + 2 := by rfl) :
    EvW G lv b b2 (tCl n m (SpD G.K F) (fun vs zs => vs ++ zs) Ex t tk) ds (fun d => d = z) := (ews_calK ha hk hn hm h.n h.dom (by rw [h.cost]; omega) h.exn ho ho2).imp fun d q => h.res d q
theorem ew_cal {z : D} (ha : EaD G true b b1 t ds es) (h : Cal F es z) (hn : es.length = n) (ho : F.own = true := by rfl) (ho2 : F.own2 = lv + 2 := by rfl) :
    EvW G lv b b1 (tCl n 0 (SpD G.K F) (fun vs _ => vs) Ex t tNil) ds (fun d => d = z) := fun gs M H σ S Q k =>
  ha gs M H σ S _ fun vs es' H1 r1 e1 l1 rp1 => by
    subst r1
    have S1 := S.step e1 l1
    refine ⟨by rw [rp1.length, hn], rfl, es', M, b1, S1.liv, l1.mono (by rw [h.cost]; omega), rp1, h.n, h.dom, fun v d H3 rd e3 l3 rp3 o => ?_, fun C dd fsV x H3 rx => absurd rx (h.exn C x)⟩
    have o := o ho
    rw [ho2] at o
    obtain ⟨Fn, q1, q2, q3⟩ := o
    exact k v d Fn H3 (h.res d rd) (e1.trans e3) l3 (fun a m => e1.free (q1 a m)) q2 q3
theorem ew_calD {z : D} {vz : List V} {dz : List D} (hz : ∀ H : Hp, RpA G.K H vz dz) (ha : EaD G true b b1 t ds es) (h : Cal F (es ++ dz) z) (hn : es.length = n) (ho : F.own = true := by rfl) (ho2 : F.own2 = lv + 2 := by rfl) :
    EvW G lv b b1 (tCl n 0 (SpD G.K F) (fun vs _ => vs ++ vz) Ex t tNil) ds (fun d => d = z) := fun gs M H σ S Q k =>
  ha gs M H σ S _ fun vs es' H1 r1 e1 l1 rp1 => by
    subst r1
    have S1 := S.step e1 l1
    refine ⟨by rw [rp1.length, hn], rfl, es' ++ dz, M, b1, S1.liv, l1.mono (by rw [h.cost]; omega), rp1.append (hz _), h.n, h.dom, fun v d H3 rd e3 l3 rp3 o => ?_, fun C dd fsV x H3 rx => absurd rx (h.exn C x)⟩
    have o := o ho
    rw [ho2] at o
    obtain ⟨Fn, q1, q2, q3⟩ := o
    exact k v d Fn H3 (h.res d rd) (e1.trans e3) l3 (fun a m => e1.free (q1 a m)) q2 q3
end
/-! ### dicts by keys -/
def kD : Key → D
  | .inl i => .int i
  | .inr s => .str s
theorem kD_v {K : PySem.W.Frag} {H : Hp} {v : V} {k : Key} (h : Rp K H v (kD k)) : v = kV k := by
  cases k with
  | inl i => cases h; rfl
  | inr s => cases h; rfl
section
variable {κ : Type} [DecidableEq κ]
theorem valV_zip : ∀ {ks : List κ} {vs : List V} {j : Nat} {k : κ}, ks.length = vs.length → ks.Nodup → ks[j]? = some k → valV (ks.zip vs) k = vs[j]?
  | [], _, j, k, _, _, h => by simp at h
  | x :: ks, [], j, k, hl, _, _ => by simp at hl
  | x :: ks, v :: vs, 0, k, hl, nd, h => by
    simp at h
    rw [List.zip_cons_cons, valV_pos (show (x, v).1 = k from h)]
    rfl
  | x :: ks, v :: vs, j + 1, k, hl, nd, h => by
    obtain ⟨h1, h2⟩ := List.nodup_cons.mp nd
    have hj : ks[j]? = some k := by simpa using h
    rw [List.zip_cons_cons, valV_neg (fun z => h1 (by rw [show x = k from z]; exact List.mem_of_getElem? hj)), valV_zip (by simpa using hl) h2 hj]
    rfl
theorem any_zip : ∀ {ks : List κ} {vs : List V} {k : κ}, ks.length = vs.length → ((ks.zip vs).any fun kv => decide (kv.1 = k)) = decide (k ∈ ks)
  | [], _, k, _ => by simp
  | x :: ks, [], k, hl => by simp at hl
  | x :: ks, v :: vs, k, hl => by
    rw [List.zip_cons_cons, List.any_cons, any_zip (by simpa using hl)]
    by_cases h : x = k
    · simp [h]
    · simp [h, Ne.symm h]
theorem putK_new {ks : List κ} {vs : List V} {k : κ} {v : V} (hl : ks.length = vs.length) (h : k ∉ ks) : putK (ks.zip vs) k v = (ks ++ [k]).zip (vs ++ [v]) := by
  unfold putK
  rw [any_zip hl, if_neg (by simpa using h), List.zip_append hl]
  rfl
theorem map_put_ne : ∀ {ks : List κ} {vs : List V} {k : κ} {v : V}, k ∉ ks → (ks.zip vs).map (fun kv => if kv.1 = k then (kv.1, v) else kv) = ks.zip vs
  | [], _, k, v, _ => by simp
  | x :: ks, [], k, v, _ => by simp
  | x :: ks, u :: vs, k, v, h => by
    rw [List.zip_cons_cons, List.map_cons, map_put_ne fun z => h (List.mem_cons_of_mem _ z), if_neg fun z => h (by rw [← show x = k from z]; exact List.mem_cons_self)]
theorem putK_old {ks : List κ} {vs : List V} {k : κ} {v : V} (hl : ks.length = vs.length) (nd : ks.Nodup) {j : Nat} (h : ks[j]? = some k) : putK (ks.zip vs) k v = ks.zip (vs.set j v) := by
  unfold putK
  rw [any_zip hl, if_pos (by simpa using List.mem_of_getElem? h)]
  induction ks generalizing vs j with
  | nil => simp at h
  | cons x ks ih =>
    cases vs with
    | nil => simp at hl
    | cons u vs =>
      obtain ⟨h1, h2⟩ := List.nodup_cons.mp nd
      cases j with
      | zero =>
        simp at h
        subst h
        rw [List.set_cons_zero, List.zip_cons_cons, List.zip_cons_cons, List.map_cons, if_pos rfl, map_put_ne h1]
      | succ j =>
        have hj : ks[j]? = some k := by simpa using h
        rw [List.set_cons_succ, List.zip_cons_cons, List.zip_cons_cons, List.map_cons, ih (by simpa using hl) h2 hj, if_neg fun z => h1 (by rw [show x = k from z]; exact List.mem_of_getElem? hj)]
end
section
variable {G : Gx} {p : Bool} {lv b b' b1 b2 : Nat} {te ta tb ti tv : TE} {tA : TA} {ds : List Sd} {R : D → Prop} {E : DE} {i j : Nat} {t t0 t1 : Tree} {F : List Addr} {d : D} {put : Tree → Tree} {ts : List Tree} {m : Int} {ks : List Key} {key : Key}
/-- one step down, whatever the node -/
theorem focus_step {M : Addr → Prop} {H1 H2 : Hp} {K : PySem.W.Frag} {r : V} {a : Addr} {o : HO} {n : Nd} {vs : List V} {F1 F0 F2 : List Addr} {k : Nat} (e2 : Ext H1 H2) (ha : H1 a = some o) (ho : n.ho vs o) (q : TrL K M H1 vs ts F0) (hk : ts[k]? = some t1)
    (cl : ∀ (M' : Addr → Prop) (H'' : Hp) (t0' : Tree) (F0' : List Addr), Kp (msk M H1) (msk M' H'') → (∀ a, a ∈ F1 ∨ a ∈ F2 → ∀ o, H1 a = some o → (∀ φ, o ≠ .ext φ) → H'' a = some o) → Tr K M' H'' (.ref a) t0' F0' → Tr K M' H'' r (put t0') (F1 ++ (F0' ++ F2))) :
    ∃ w G1 G0 G2, vs[k]? = some w ∧ F1 ++ ((a :: F0) ++ F2) = G1 ++ (G0 ++ G2) ∧ Tr K M H2 w t1 G0 ∧
      ∀ (M' : Addr → Prop) (H'' : Hp) (t0' : Tree) (F0' : List Addr), Kp (msk M H2) (msk M' H'') → (∀ a, a ∈ G1 ∨ a ∈ G2 → ∀ o, H2 a = some o → (∀ φ, o ≠ .ext φ) → H'' a = some o) → Tr K M' H'' w t0' F0' → Tr K M' H'' r (put (.node n (ts.set k t0'))) (G1 ++ (F0' ++ G2)) := by
  obtain ⟨w, G1, G0, G2, hw, hF, trw, cl2⟩ := q.at hk
  subst hF
  refine ⟨w, F1 ++ (a :: G1), G0, G2 ++ F2, hw, by simp, trw.chg (msk_mono e2.toKp) (fun c _ u hu n => e2.keep c u hu n), fun M' H'' t0' F0' kp keep tr' => ?_⟩
  have kp1 := (msk_mono (M := M) e2.toKp).trans kp
  have kept : ∀ c, c ∈ F1 ++ (a :: G1) ∨ c ∈ G2 ++ F2 → ∀ u, H1 c = some u → (∀ φ, u ≠ .ext φ) → H'' c = some u := fun c hc u hu n => keep c hc u (e2.keep c u hu n) n
  have hs : vs.set k w = vs := by
    obtain ⟨hi, e⟩ := List.getElem?_eq_some_iff.mp hw
    rw [← e]
    exact List.set_getElem_self hi
  have tl := cl2 M' H'' w t0' F0' kp1 (fun c hc u hu n => kept c (hc.elim (fun z => .inl (List.mem_append_right _ (List.mem_cons_of_mem _ z))) fun z => .inr (List.mem_append_left _ z)) u hu n) tr'
  rw [hs] at tl
  have q2 := cl M' H'' (.node n (ts.set k t0')) (a :: (G1 ++ (F0' ++ G2))) kp1 (fun c hc u hu n => kept c (hc.elim (fun z => .inl (List.mem_append_left _ z)) fun z => .inr (List.mem_append_right _ z)) u hu n) (.node (kept a (.inl (List.mem_append_right _ List.mem_cons_self)) o ha (Nd.noext ho)) ho tl)
  have e3 : F1 ++ (a :: (G1 ++ (F0' ++ G2)) ++ F2) = F1 ++ (a :: G1) ++ (F0' ++ (G2 ++ F2)) := by simp
  rw [e3] at q2
  exact q2
theorem ef_ixL (h : EvF G b b1 te ds i t (.node .lst ts) put) (hi : EvD G p b1 b2 ti ds (.int m)) (h0 : 0 ≤ m) (hk : ts[m.toNat]? = some t1) : EvF G b b2 (tOp (rIxA G.K) te ti) ds i t t1 (fun z => put (.node .lst (ts.set m.toNat z))) := fun gs M H σ F S hds Q k =>
  h gs M H σ F S hds _ fun v H1 r F1 F0 F2 e l hr hF tr cl => hi gs M H1 σ (S.step e l) _ fun u d H2 rd e2 l2 rp => by
    subst rd
    cases rp
    cases tr with
    | @node a o n vs _ F0 ha ho q =>
      obtain ⟨w, G1, G0, G2, hw, hF', trw, cl'⟩ := focus_step e2 ha ho q hk cl
      have ho' : o = .lst vs := ho
      subst ho'
      have ha2 := e2.keep _ _ ha fun _ z => nomatch z
      have hlt : m.toNat < vs.length := (List.getElem?_eq_some_iff.mp hw).1
      exact .inl ⟨a, vs, m, w, rfl, rfl, SqL.of ha2, by unfold L2.atI; rw [ixN_nn h0 (by omega)]; exact hw, k w H2 r G1 G0 G2 (e.trans e2) l2 hr (hF.trans hF') trw cl'⟩
theorem ef_ixD (h : EvF G b b1 te ds i t (.node (.dct ks) ts) put) (hi : EvD G p b1 b2 ti ds (kD key)) (nd : ks.Nodup) (hj : ks[j]? = some key) (hk : ts[j]? = some t1) : EvF G b b2 (tOp (rIxA G.K) te ti) ds i t t1 (fun z => put (.node (.dct ks) (ts.set j z))) := fun gs M H σ F S hds Q k =>
  h gs M H σ F S hds _ fun v H1 r F1 F0 F2 e l hr hF tr cl => hi gs M H1 σ (S.step e l) _ fun u d H2 rd e2 l2 rp => by
    subst rd
    have eu := kD_v rp
    subst eu
    cases tr with
    | @node a o n vs _ F0 ha ho q =>
      obtain ⟨w, G1, G0, G2, hw, hF', trw, cl'⟩ := focus_step e2 ha ho q hk cl
      obtain ⟨hl, ho'⟩ := ho
      subst ho'
      have ha2 := e2.keep _ _ ha fun _ z => nomatch z
      exact .inr (.inr (.inr ⟨a, w, rfl, by rw [← hw, ← valV_zip hl nd hj]; exact DGet.k ha2, k w H2 r G1 G0 G2 (e.trans e2) l2 hr (hF.trans hF') trw cl'⟩))
/-- an object of the tree is changed in place -/
theorem Stt.mutT {gs : List (V × D)} {M : Addr → Prop} {H : Hp} {σ : List (Option V)} {r : V} {a : Addr} {o' : HO} {n : Nd} {F1 F0 F0' F2 : List Addr} {t' : Tree} (S : G.st gs M b H σ ds) (hds : ds[i]? = some (.tre t F)) (hr : σ[i]? = some (some r)) (hF : F = F1 ++ ((a :: F0) ++ F2)) (hx : ∀ φ, o' ≠ .ext φ) (hsub : F0'.Sublist F0)
    (tr' : Tr G.K M (upd H a o') r t' (F1 ++ ((a :: F0') ++ F2))) : G.st gs M b (upd H a o') σ (ds.set i (.tre t' (F1 ++ ((a :: F0') ++ F2)))) := by
  obtain ⟨v, e, m, nd, tr⟩ := S.treL hds
  rw [hr] at e
  cases e
  have sub : (F1 ++ ((a :: F0') ++ F2)).Sublist F := by
    rw [hF]
    exact ((List.Sublist.refl F1).append ((hsub.cons₂ a).append (List.Sublist.refl F2)))
  have haF : a ∈ F := by rw [hF]; simp
  exact S.chgO (i := i) ⟨_, _, hr, hds, haF⟩ hr hx (fun H' h1 h2 h3 => ⟨r, rfl, fun c hc => (m c (sub.subset hc)).1, nd.sublist sub, by
    have eH : H' = upd H a o' := by
      funext c
      by_cases hc : c = a
      · rw [hc, h1, upd_same]
      · rw [h2 c hc, upd_ne hc]
    rw [eH]
    exact tr'⟩) fun c hc => ⟨_, _, hr, hds, sub.subset hc⟩
theorem tre_at {gs : List (V × D)} {M : Addr → Prop} {H : Hp} {σ : List (Option V)} {a : Addr} {F1 F0 F2 : List Addr} (S : G.st gs M b H σ ds) (hds : ds[i]? = some (.tre t F)) (hF : F = F1 ++ ((a :: F0) ++ F2)) : M a ∧ ∀ c, c ∈ F1 ∨ c ∈ F2 ∨ c ∈ F0 → c ≠ a := by
  obtain ⟨v, e, m, nd, tr⟩ := S.treL hds
  rw [hF] at nd m
  refine ⟨(m a (by simp)).1, fun c hc z => ?_⟩
  subst z
  have n1 := List.nodup_append.mp nd
  have n2 := List.nodup_append.mp n1.2.1
  rcases hc with hc | hc | hc
  · exact n1.2.2 c hc c (by simp) rfl
  · exact n2.2.2 c (by simp) c hc rfl
  · exact (List.nodup_cons.mp n2.1).1 hc
/-- .. .append(e) -/
theorem w_appT (hds : ds[i]? = some (.tre t F)) (h : EvF G b b1 te ds i t (.node .lst ts) put) (he : EvD G true b1 b2 ta ds d) (hl : ts.length < 100000) (k : ∀ F', E.nx (ds.set i (.tre (put (.node .lst (ts ++ [.leaf d]))) F')) b2) :
    Wt G b (tDrop (tBM G.K "list" rAppend te (tCons ta tNil))) ds E := fun gs M H σ S Dn w => by
  refine h gs M H σ F S hds _ fun v H1 r F1 F0 F2 e l hr hF tr cl => ?_
  cases tr with
  | @node a o n vs _ F0 ha ho q =>
    have ho' : o = .lst vs := ho
    subst ho'
    refine ⟨.inl ⟨rfl, vs, SqL.of ha⟩, ?_⟩
    refine he gs M H1 σ (S.step e l) _ fun u d' H2 rd e2 l2 rp => ?_
    subst rd
    have S2 := (S.step e l).step e2 l2
    have ha2 := e2.keep _ _ ha fun _ z => nomatch z
    refine ⟨a, vs, u, rfl, rfl, ha2, by rw [q.length]; exact Nat.lt_of_lt_of_le hl (by decide), ?_⟩
    obtain ⟨ma, na⟩ := tre_at S2 hds hF
    have kp : Kp (msk M H1) (msk M (upd H2 a (.lst (vs ++ [u])))) := by rw [msk_upd ma]; exact msk_mono e2.toKp
    have kept : ∀ c, c ∈ F1 ∨ c ∈ F2 ∨ c ∈ F0 → ∀ z, H1 c = some z → (∀ φ, z ≠ .ext φ) → (upd H2 a (.lst (vs ++ [u]))) c = some z := fun c hc z hz n => by rw [upd_ne (na c hc)]; exact e2.keep c z hz n
    have q2 := (q.chg kp fun c hc z hz n => kept c (.inr (.inr hc)) z hz n).app (.cons (.leaf (d := d') (by rw [msk_upd ma]; exact rp)) .nil)
    simp only [List.append_nil] at q2
    have tr' := cl M _ (.node .lst (ts ++ [.leaf d'])) (a :: F0) kp (fun c hc z hz n => kept c (hc.elim .inl fun z => .inr (.inl z)) z hz n) (.node upd_same rfl q2)
    exact w.nx M b2 _ σ _ (S2.mutT (n := .lst) hds hr hF (fun _ z => nomatch z) (List.Sublist.refl _) tr') (k _)
/-- ..[k] = e, a dict, a new key -/
theorem w_putT_new (hds : ds[i]? = some (.tre t F)) (hv : EvD G true b b' tv ds d) (h : EvF G b' b1 te ds i t (.node (.dct ks) ts) put) (hi : EvD G p b1 b2 ti ds (kD key)) (hn : key ∉ ks) (hl : ts.length < 16000) (k : ∀ F', E.nx (ds.set i (.tre (put (.node (.dct (ks ++ [key])) (ts ++ [.leaf d]))) F')) b2) :
    Wt G b (tAsg tv (gSub te ti rSetA)) ds E := fun gs M H σ S Dn w => by
  refine hv gs M H σ S _ fun x d' H0 rd0 e0 l0 rp0 => ?_
  subst rd0
  have S0 := S.step e0 l0
  refine h gs M H0 σ F S0 hds _ fun v H1 r F1 F0 F2 e l hr hF tr cl => ?_
  refine hi gs M H1 σ (S0.step e l) _ fun u d2 H2 rd e2 l2 rp => ?_
  subst rd
  have eu := kD_v rp
  subst eu
  cases tr with
  | @node a o n vs _ F0 ha ho q =>
    obtain ⟨hlk, ho'⟩ := ho
    subst ho'
    have S2 := (S0.step e l).step e2 l2
    have ha2 := e2.keep _ _ ha fun _ z => nomatch z
    have hz : (ks.zip vs).length < sizeLine := by rw [List.length_zip, hlk, Nat.min_self, q.length]; exact Nat.lt_of_lt_of_le hl (by decide)
    refine .inr ⟨a, _, rfl, DPut.k ha2 hz, ?_⟩
    rw [putK_new hlk hn]
    obtain ⟨ma, na⟩ := tre_at S2 hds hF
    generalize ho' : HO.dK ((ks ++ [key]).zip (vs ++ [x])) = o'
    have hx : ∀ φ, o' ≠ .ext φ := fun φ z => by rw [← ho'] at z; cases z
    have kp : Kp (msk M H1) (msk M (upd H2 a o')) := by rw [msk_upd ma]; exact msk_mono e2.toKp
    have kept : ∀ c, c ∈ F1 ∨ c ∈ F2 ∨ c ∈ F0 → ∀ z, H1 c = some z → (∀ φ, z ≠ .ext φ) → (upd H2 a o') c = some z := fun c hc z hz n => by rw [upd_ne (na c hc)]; exact e2.keep c z hz n
    have q2 := (q.chg kp fun c hc z hz n => kept c (.inr (.inr hc)) z hz n).app (.cons (.leaf (d := d') (by rw [msk_upd ma]; exact (rp0.mono (msk_mono e.toKp)).mono (msk_mono e2.toKp))) .nil)
    simp only [List.append_nil] at q2
    have tr' := cl M _ (.node (.dct (ks ++ [key])) (ts ++ [.leaf d'])) (a :: F0) kp (fun c hc z hz n => kept c (hc.elim .inl fun z => .inr (.inl z)) z hz n) (.node upd_same ⟨by simp [hlk], ho'.symm⟩ q2)
    exact w.nx M b2 _ σ _ (S2.mutT (n := .lst) hds hr hF hx (List.Sublist.refl _) tr') (k _)
/-- .. a key that is there -/
theorem w_putT_old (hds : ds[i]? = some (.tre t F)) (hv : EvD G true b b' tv ds d) (h : EvF G b' b1 te ds i t (.node (.dct ks) ts) put) (hi : EvD G p b1 b2 ti ds (kD key)) (nd : ks.Nodup) (hj : ks[j]? = some key) (hl : ts.length < 16000) (k : ∀ F', E.nx (ds.set i (.tre (put (.node (.dct ks) (ts.set j (.leaf d)))) F')) b2) :
    Wt G b (tAsg tv (gSub te ti rSetA)) ds E := fun gs M H σ S Dn w => by
  refine hv gs M H σ S _ fun x d' H0 rd0 e0 l0 rp0 => ?_
  subst rd0
  have S0 := S.step e0 l0
  refine h gs M H0 σ F S0 hds _ fun v H1 r F1 F0 F2 e l hr hF tr cl => ?_
  refine hi gs M H1 σ (S0.step e l) _ fun u d2 H2 rd e2 l2 rp => ?_
  subst rd
  have eu := kD_v rp
  subst eu
  cases tr with
  | @node a o n vs _ F0 ha ho q =>
    obtain ⟨hlk, ho'⟩ := ho
    subst ho'
    have S2 := (S0.step e l).step e2 l2
    have ha2 := e2.keep _ _ ha fun _ z => nomatch z
    have hz : (ks.zip vs).length < sizeLine := by rw [List.length_zip, hlk, Nat.min_self, q.length]; exact Nat.lt_of_lt_of_le hl (by decide)
    refine .inr ⟨a, _, rfl, DPut.k ha2 hz, ?_⟩
    rw [putK_old hlk nd hj]
    obtain ⟨ma, na⟩ := tre_at S2 hds hF
    generalize ho' : HO.dK (ks.zip (vs.set j x)) = o'
    have hx : ∀ φ, o' ≠ .ext φ := fun φ z => by rw [← ho'] at z; cases z
    have kp : Kp (msk M H1) (msk M (upd H2 a o')) := by rw [msk_upd ma]; exact msk_mono e2.toKp
    have kept : ∀ c, c ∈ F1 ∨ c ∈ F2 ∨ c ∈ F0 → ∀ z, H1 c = some z → (∀ φ, z ≠ .ext φ) → (upd H2 a o') c = some z := fun c hc z hz n => by rw [upd_ne (na c hc)]; exact e2.keep c z hz n
    have hjt : j < ts.length := by
      have := (List.getElem?_eq_some_iff.mp hj).1
      have := q.length
      omega
    obtain ⟨w0, G1, G0, G2, hw, hFs, trw, cl2⟩ := q.at (List.getElem?_eq_getElem hjt)
    subst hFs
    have q2 := cl2 M (upd H2 a o') x (.leaf d') [] kp (fun c hc z hz n => kept c (.inr (.inr (by rcases hc with hc | hc <;> simp [hc]))) z hz n) (.leaf (by rw [msk_upd ma]; exact (rp0.mono (msk_mono e.toKp)).mono (msk_mono e2.toKp)))
    have tr' := cl M _ (.node (.dct ks) (ts.set j (.leaf d'))) (a :: (G1 ++ ([] ++ G2))) kp (fun c hc z hz n => kept c (hc.elim .inl fun z => .inr (.inl z)) z hz n) (.node upd_same ⟨by rw [List.length_set]; exact hlk, ho'.symm⟩ q2)
    exact w.nx M b2 _ σ _ (S2.mutT (n := .lst) hds hr hF hx ((List.Sublist.refl G1).append ((List.nil_sublist G0).append (List.Sublist.refl G2))) tr') (k _)
end
end Sh

/-! Sh28: sorted of ints, of a dict's keys; dict comprehensions. -/
namespace Sh
open PySem PySem.Spec PySem.Calls PyProof.Rows L2
def rSortedDI : List V → Hp → VK → Prop := fun xs H Q => ∃ (a : Addr) (kvs : List (Key × V)) (ks : List Int), xs = [.ref a] ∧ Rd H a (.dK kvs) ∧ kvs.map (·.1) = ks.map Sum.inl ∧ ks.length < 64 ∧
    ∀ (ys : List Int) (p : Addr), ys.Perm ks → ys.Pairwise (· ≤ ·) → H p = none → Q (.ref p) (upd H p (.lst (ys.map V.int)))
def rSortedA (K : PySem.W.Frag) : List V → Hp → VK → Prop := fun xs H Q => rSortedI K xs H Q ∨ rSortedDI xs H Q
theorem g_sorted {X : Cx} {K : PySem.W.Frag} (hK : X.K = K) (hc : X.calm = true) : CallR X (.builtin "sorted") (rSortedA K) := by
  subst hK
  exact cr_sortedI.or (call_sortedDI hc)
theorem RpK.keys {K : PySem.W.Frag} {H : Hp} : ∀ {vs : List (Key × V)} {ds : List (Key × D)}, RpK K H vs ds → vs.map (·.1) = ds.map (·.1)
  | _, _, .nil => rfl
  | _, _, .cons _ q => by rw [List.map_cons, List.map_cons, RpK.keys q]
/-- sorted(d), d with int keys -/
theorem c_sortedD {K : PySem.W.Frag} {kds : List (Key × D)} {ks : List Int} (hk : kds.map (·.1) = ks.map Sum.inl) (hl : ks.length < 64) : ClA K (rSortedA K) [.dct kds] (fun d => ∃ ys : List Int, d = .lst (ys.map .int) ∧ ys.Perm ks ∧ ys.Pairwise (· ≤ ·)) := fun N b H vs Q hN l r k => by
  cases r with
  | cons r1 r =>
    cases r
    cases r1 with
    | dct ha rk =>
      refine .inr ⟨_, _, ks, rfl, (rd_of ha).2, (RpK.keys rk).trans hk, hl, fun ys p h1 h2 hp => ?_⟩
      exact k _ _ _ ⟨ys, rfl, h1, h2⟩ (Ext.new hp) (l.upd fun _ z => nomatch z) (.lst (by rw [msk_no fun z => hN p z hp]; exact upd_same) RpA.of_ints)
/-- sorted(l), l ints -/
theorem c_sortedI {K : PySem.W.Frag} {ns : List Int} : ClA K (rSortedA K) [.lst (ns.map .int)] (fun d => ∃ ys : List Int, d = .lst (ys.map .int) ∧ ys.Perm ns ∧ ys.Pairwise (· ≤ ·)) := fun N b H vs Q hN l r k => by
  cases r with
  | cons r1 r =>
    cases r
    cases r1 with
    | lst ha rk =>
      have e := RpA.ints rk
      subst e
      refine .inl ⟨_, ns, rfl, SqL.of (msk_of ha).2, fun ys p h1 h2 hp => ?_⟩
      exact k _ _ _ ⟨ys, rfl, h1, h2⟩ (Ext.new hp) (l.upd fun _ z => nomatch z) (.lst (by rw [msk_no fun z => hN p z hp]; exact upd_same) RpA.of_ints)
theorem sorted_ext : ∀ {l1 l2 : List Int}, l1.Pairwise (· < ·) → l2.Pairwise (· < ·) → (∀ k, k ∈ l1 ↔ k ∈ l2) → l1 = l2
  | [], [], _, _, _ => rfl
  | [], y :: l2, _, _, h => absurd ((h y).mpr List.mem_cons_self) List.not_mem_nil
  | x :: l1, [], _, _, h => absurd ((h x).mp List.mem_cons_self) List.not_mem_nil
  | x :: l1, y :: l2, h1, h2, h => by
    obtain ⟨a1, a2⟩ := List.pairwise_cons.mp h1
    obtain ⟨b1, b2⟩ := List.pairwise_cons.mp h2
    have e : x = y := by
      rcases List.mem_cons.mp ((h x).mp List.mem_cons_self) with z | z
      · exact z
      · rcases List.mem_cons.mp ((h y).mpr List.mem_cons_self) with w | w
        · exact w.symm
        · have := b1 x z
          have := a1 y w
          omega
    subst e
    rw [sorted_ext a2 b2 fun k => ⟨fun z => ?_, fun z => ?_⟩]
    · rcases List.mem_cons.mp ((h k).mp (List.mem_cons_of_mem _ z)) with w | w
      · have := a1 k z
        omega
      · exact w
    · rcases List.mem_cons.mp ((h k).mpr (List.mem_cons_of_mem _ z)) with w | w
      · have := b1 k z
        omega
      · exact w
theorem lt_of_le {l : List Int} (h : l.Pairwise (· ≤ ·)) (nd : l.Nodup) : l.Pairwise (· < ·) := by
  have q := h.and nd
  exact q.imp fun ⟨a, b⟩ => by omega
theorem ClD.to {K : PySem.W.Frag} {r : List V → Hp → VK → Prop} {xs : List D} {z : D} {R : D → Prop} (h : ClD K r xs z) (i : R z) : ClA K r xs R := fun N b H v Q hN l r1 k => h N b H v Q hN l r1 fun z' d H' e x l rp => k z' d H' (by rw [e]; exact i) x l rp
theorem EvP.eq {G : Gx} {te : TE} {ds : List Sd} {d d' : D} (h : EvP G te ds d) (e : d = d') : EvP G te ds d' := e ▸ h
abbrev Tre : Type := Sh.Tree
theorem tre_dct (ks : List Key) (ts : List Tre) : Sh.Tree.d (.node (.dct ks) ts) = .dct (ks.zip (Sh.Tree.dL ts)) := by
  rw [Sh.Tree.d]
  rfl
theorem tre_lst (ts : List Tre) : Sh.Tree.d (.node .lst ts) = .lst (Sh.Tree.dL ts) := by
  rw [Sh.Tree.d]
  rfl
theorem dL_len : ∀ ts : List Tre, (Sh.Tree.dL ts).length = ts.length
  | [] => by rw [Sh.Tree.dL]; rfl
  | t :: ts => by rw [Sh.Tree.dL, List.length_cons, dL_len ts]; rfl
/-- the scope of a comprehension, the value of a statement -/
def scopeOf : Expr → Scope
  | .ListComp _ _ sc _ => sc
  | .SetComp _ _ sc _ => sc
  | .DictComp _ _ _ sc _ => sc
  | .GeneratorExp _ _ sc _ => sc
  | _ => default
def valOf : Stmt → Expr
  | .Return (some e) _ => e
  | .Assign _ e _ => e
  | .Expr e _ => e
  | _ => .Constant .none 0 ⟨0, 0, 0, 0⟩
theorem relab_lookup {p : Str → NameKind → Bool} : ∀ {names : List (Str × NameKind)} {x : Str} {k : NameKind}, names.lookup x = some k →
    ∃ k', (names.map fun (n, k) => if p n k then (n, NameKind.cell) else (n, k)).lookup x = some k' ∧ (k' = k ∨ k' = .cell)
  | [], _, _, h => by simp at h
  | (n, k0) :: r, x, k, h => by
    rw [List.map_cons]
    by_cases e : x = n
    · subst e
      rw [List.lookup_cons_self] at h
      cases h
      cases q : p x k0 with
      | true => exact ⟨.cell, by simp [q], .inr rfl⟩
      | false => exact ⟨k0, by simp [q], .inl rfl⟩
    · have h' : r.lookup x = some k := by
        rw [List.lookup_cons] at h
        rwa [show (x == n) = false from by simpa using e] at h
      obtain ⟨k', h1, h2⟩ := relab_lookup (p := p) h'
      refine ⟨k', ?_, h2⟩
      rw [← h1, List.lookup_cons]
      have : (x == (if p n k0 then (n, NameKind.cell) else (n, k0)).1) = false := by
        cases p n k0 <;> simpa using e
      rw [this]
/-- the block of a block -/
theorem BlkOk.rel {N : List Str} {sc scope : Scope} {own : List (Str × Nat)} {env : Env} (h : BlkOk N sc scope own) : BlkOk N (relabel sc env) scope own :=
  ⟨h.kind, h.uniq, h.ix, fun y hy e => by
    rcases h.free y hy e with q | q
    · obtain ⟨k', h1, h2⟩ := relab_lookup (p := fun n k => k == NameKind.free && env.scope.kind == .function && env.kindOf n == some .cell) q
      rcases h2 with rfl | rfl
      · exact .inl h1
      · exact .inl h1
    · obtain ⟨k', h1, h2⟩ := relab_lookup (p := fun n k => k == NameKind.free && env.scope.kind == .function && env.kindOf n == some .cell) q
      rcases h2 with rfl | rfl
      · exact .inr h1
      · exact .inl h1, h.own⟩
/-! ### {k: v for ..} -/
theorem kp_grow {M P : Addr → Prop} {H H' : Hp} (hp : ∀ a, P a → H a = none) (e : Ext H H') : Kp (msk M H) (msk (fun a => M a ∨ P a) H') := ⟨fun a o h n => by
    obtain ⟨h1, h2⟩ := msk_of h
    have na : ¬ P a := fun z => by rw [hp a z] at h2; cases h2
    rw [msk_no fun z => z.elim h1 na]
    exact e.keep a o h2 n, fun a n h => by
    obtain ⟨h1, h2⟩ := msk_of h
    have na : ¬ P a := fun z => by rw [hp a z] at h2; unfold PurseO at h2; cases h2
    obtain ⟨m, q⟩ := e.pz a n h2
    exact ⟨m, by rw [msk_no fun z => z.elim h1 na]; exact q⟩⟩
theorem ew_dc {G : Gx} {lv b b1 : Nat} {wi : TI} {g : TG} {tk tv : TE} {vs : List Nat} {ds : List Sd} {n : Nat} {it : Nat → D} (f : Nat → Key) (h : Nat → D) (hi : EvI G b b1 wi ds n it) (hn : n ≤ 16000) (hf : ∀ i j, i < j → j < n → f i ≠ f j)
    (hs : ∀ i, i < n → ∃ ds'', TgR G.K vs g (it i) (wipeD ds vs) ds'' ∧ ∀ b0, EvD G true b0 b0 tk ds'' (kD (f i)) ∧ EvW G lv b0 b0 tv ds'' (fun d => d = h i)) :
    EvW G (lv + 1) b b1 (tDc wi g tYes tk tv vs) ds (fun d => d = .dct ((List.range n).map fun i => (f i, h i))) := fun gs M H σ S Q k =>
  hi gs M H σ S _ fun J gs' H1 e l hg ok => fun D hD => by
    have S1 : Stt G.K G.H0 G.M0 (gs' ++ gs) M b1 H1 σ ds := (S.step e l).ghosts hg
    refine ⟨fun i m H => m = n - i ∧ i ≤ n ∧ ∃ us F, Ext H1 H ∧ Lim b1 H ∧ (∀ a ∈ D :: F, H1 a = none) ∧ (D :: F).Nodup ∧ H D = some (.dK (((List.range i).map f).zip us)) ∧ TrL G.K (fun a => M a ∨ a ∈ D :: F) H us ((List.range i).map fun j => full lv (h j)) F,
      ⟨n, by omega, Nat.zero_le _, [], [], Ext.new hD, S1.lim.upd (fun _ z => nomatch z), (fun a m => by rw [List.mem_singleton.mp m]; exact hD), List.nodup_cons.mpr ⟨fun z => (nomatch z), List.nodup_nil⟩, upd_same, .nil⟩, ?_⟩
    rintro i m H2 ⟨rfl, hin, us, F, e2, l2, hF, nd, hacc, tl⟩
    have hlv : ∀ a ∈ D :: F, H2 a ≠ none := fun a ha => by
      rcases List.mem_cons.mp ha with rfl | ha
      · rw [hacc]; exact fun z => nomatch z
      · exact tl.liv a ha
    have S2 : Stt G.K G.H0 G.M0 (gs' ++ gs) (fun a => M a ∨ a ∈ D :: F) b1 H2 σ ds := S1.growP (P := fun a => a ∈ D :: F) hF e2 l2 hlv
    by_cases hlt : i < n
    · refine .inr ⟨ok.go i _ H2 S2.gh' hlt, fun H => ∃ us F, Ext H1 H ∧ Lim b1 H ∧ (∀ a ∈ D :: F, H1 a = none) ∧ (D :: F).Nodup ∧ H D = some (.dK (((List.range (i + 1)).map f).zip us)) ∧ TrL G.K (fun a => M a ∨ a ∈ D :: F) H us ((List.range (i + 1)).map fun j => full lv (h j)) F, fun H' z => ⟨n - (i + 1), by omega, rfl, hlt, z⟩, fun x H3 y => ?_⟩
      obtain ⟨x1, x2, x3⟩ := ok.yld i _ H2 S2.gh' hlt x H3 y
      obtain ⟨ds'', t1, t2⟩ := hs i hlt
      have S3 := (S2.step x1 (x2 _ l2)).wipe vs
      refine t1 _ _ _ _ _ H3 _ x S3 x3 _ fun σ4 S4 ew => ⟨?_, ?_⟩
      · rw [ew]
        exact wipe_sub vs vs fun _ h => h
      · obtain ⟨q1, q2⟩ := t2 b1
        refine q1 _ _ H3 σ4 S4 _ fun y d4 H4 r4 e4 l4 rp4 => ?_
        subst r4
        have ey := kD_v rp4
        subst ey
        have S5 := S4.step e4 l4
        refine q2 _ _ H4 σ4 S5 _ fun z d5 F5 H5 r5 e5 l5 hF5 nd5 tr5 => ?_
        subst r5
        have e25 := (x1.trans e4).trans e5
        have hacc5 : H5 D = some (.dK (((List.range i).map f).zip us)) := e25.keep _ _ hacc fun _ z => nomatch z
        have ul : ((List.range i).map f).length = us.length := by rw [tl.length]; simp
        refine ⟨_, f i, rfl, hacc5, by rw [List.length_zip, List.length_map, List.length_range]; exact Nat.lt_of_le_of_lt (Nat.min_le_left _ _) (Nat.lt_of_le_of_lt hin (Nat.lt_of_le_of_lt hn (by decide))), ?_⟩
        have hni : f i ∉ (List.range i).map f := fun z => by
          obtain ⟨j, hj, ej⟩ := List.mem_map.mp z
          exact hf j i (List.mem_range.mp hj) hlt ej
        rw [putK_new ul hni]
        have ek : (List.range i).map f ++ [f i] = (List.range (i + 1)).map f := by rw [List.range_succ, List.map_append]; rfl
        rw [ek]
        -- the new ones are unlike the old ones
        have new5 : ∀ a ∈ F5, H2 a = none := fun a ha => (x1.trans e4).free (hF5 a ha)
        have dis : ∀ a ∈ F5, a ∉ D :: F := fun a ha z => hlv a z (new5 a ha)
        have memb : ∀ a, a ∈ D :: (F ++ F5) ↔ a ∈ D :: F ∨ a ∈ F5 := fun a => by simp [or_assoc]
        have hmask : (fun c => (M c ∨ c ∈ D :: F) ∨ c ∈ F5) = fun a => M a ∨ a ∈ D :: (F ++ F5) := by
          funext a
          apply propext
          rw [memb a, or_assoc]
        have kpu : ∀ o, msk (fun a => M a ∨ a ∈ D :: (F ++ F5)) (upd H5 D o) = msk (fun a => M a ∨ a ∈ D :: (F ++ F5)) H5 := fun o => msk_upd (.inr List.mem_cons_self)
        have DnF : D ∉ F := (List.nodup_cons.mp nd).1
        have DnF5 : D ∉ F5 := fun z => dis D z List.mem_cons_self
        have k1 : Kp (msk (fun a => M a ∨ a ∈ D :: F) H2) (msk (fun a => M a ∨ a ∈ D :: (F ++ F5)) H5) := by
          rw [← hmask]
          exact kp_grow (P := fun a => a ∈ F5) new5 e25
        have tl' : TrL G.K (fun a => M a ∨ a ∈ D :: (F ++ F5)) (upd H5 D (.dK (((List.range (i + 1)).map f).zip (us ++ [z])))) us ((List.range i).map fun j => full lv (h j)) F := tl.chg (by rw [kpu]; exact k1) fun a ha o ho no => by
          rw [upd_ne fun z => DnF (by rw [← z]; exact ha)]
          exact e25.keep a o ho no
        have tr' : Tr G.K (fun a => M a ∨ a ∈ D :: (F ++ F5)) (upd H5 D (.dK (((List.range (i + 1)).map f).zip (us ++ [z])))) z (full lv (h i)) F5 := tr5.chg (by rw [kpu, hmask]; exact Kp.refl _) fun a ha o ho no => by
          rw [upd_ne fun z => DnF5 (by rw [← z]; exact ha)]
          exact ho
        refine ⟨us ++ [z], F ++ F5, ⟨⟨fun a o ha no => ?_, fun a j ha => ?_⟩, fun a ha => ?_⟩, l5.upd (fun _ z => nomatch z), fun a ha => ?_, ?_, upd_same, ?_⟩
        · rw [upd_ne (ne_of_none ha hD)]
          exact (e2.trans e25).keep a o ha no
        · rw [upd_ne (ne_of_none ha hD)]
          exact (e2.trans e25).pz a j ha
        · by_cases z : a = D
          · rw [z, upd_same]; exact fun z => nomatch z
          · rw [upd_ne z]; exact (e2.trans e25).dom a ha
        · rcases (memb a).mp ha with ha | ha
          · exact hF a ha
          · exact e2.free (new5 a ha)
        · obtain ⟨n1, n2⟩ := List.nodup_cons.mp nd
          refine List.nodup_cons.mpr ⟨fun z => (List.mem_append.mp z).elim n1 DnF5, List.nodup_append.mpr ⟨n2, nd5, fun a ha c hc z => ?_⟩⟩
          rw [← z] at hc
          exact dis a hc (List.mem_cons_of_mem _ ha)
        · have q := tl'.app (.cons tr' .nil)
          simp only [List.append_nil] at q
          have et : ((List.range (i + 1)).map fun j => full lv (h j)) = ((List.range i).map fun j => full lv (h j)) ++ [full lv (h i)] := by rw [List.range_succ, List.map_append]; rfl
          rw [et]
          exact q
    · have en : i = n := by omega
      subst en
      refine .inl ⟨ok.stop _ _ S2.gh', ?_⟩
      have ul : ((List.range i).map f).length = us.length := by rw [tl.length]; simp
      have ef : full (lv + 1) (.dct ((List.range i).map fun j => (f j, h j))) = .node (.dct ((List.range i).map f)) ((List.range i).map fun j => full lv (h j)) := by
        show Tree.node (.dct (((List.range i).map fun j => (f j, h j)).map (·.1))) (((List.range i).map fun j => (f j, h j)).map fun p => full lv p.2) = _
        rw [List.map_map, List.map_map]
        rfl
      refine k (.ref D) _ (D :: F) H2 rfl (e.trans e2) l2 (fun a ha => e.free (hF a ha)) nd ?_
      rw [ef]
      exact .node hacc ⟨ul, rfl⟩ tl
end Sh

/-! Sh29: ranges with a step, list(d), d[k] of data, lists of own lists, d.clear(). -/
namespace Sh
open PySem PySem.Spec PySem.Calls PyProof.Rows L2
section
variable {G : Gx} {p : Bool} {b b' b1 b2 : Nat} {te : TE} {ta : TA} {ds : List Sd}
theorem itc_ok {K : PySem.W.Frag} {H0 : Hp} {lo c : Int} {n : Nat} : JOk K H0 (Itc lo c n) [] n (fun i => .int (lo + (i : Int) * c)) :=
  ⟨fun i M H _ h => h, fun i M H _ h x H2 ⟨e1, e2⟩ => by subst e1 e2; exact ⟨Ext.refl _, fun _ l => l, .int _⟩, fun M H _ => Nat.le_refl n⟩
theorem ei_r3 {i j c : Int} {n : Nat} (h : EaD G p b b' ta ds [.int i, .int j, .int c]) (hr : RgC i j c n) : EvI G b b' (iRng3 ta) ds n (fun k => .int (i + (k : Int) * c)) := fun gs M H σ S R k =>
  h gs M H σ S _ fun vs es H' r e l rp => by
    subst r
    cases rp with
    | cons r1 r2 => cases r2 with | cons r2 r3 => cases r3 with | cons r3 r4 => cases r4; cases r3; cases r2; cases r1; exact ⟨i, j, c, n, rfl, hr, k _ [] H' e l (fun q z => by cases z) itc_ok⟩
/-- a range whose length was drawn -/
def iR (n : Int) : TI := fun _ H R => R (Itr 0 n.toNat) H
theorem ei_R {n : Int} : EvI G b b (iR n) ds n.toNat (fun i => .int (i : Int)) := fun gs M H σ S R k => k _ [] H (Ext.refl H) S.lim (fun q z => by cases z) (by
  have q := itr_ok (K := G.K) (H0 := G.H0) (lo := 0) (n := n.toNat)
  simp only [Int.zero_add] at q
  exact q)
theorem eos_r1S {g : TG} {tt : TT} {vs : List Nat} {R : List D → Prop} {Rn : Int → Prop} (h : EvA G p b b1 ta ds (fun es => ∃ n : Int, es = [.int n] ∧ Rn n)) (hn : ∀ n, Rn n → -(2 ^ 62) ≤ n ∧ n < 2 ^ 62) (k : ∀ n, Rn n → EvO G b1 b' (tLc (iR n) g tt te vs) ds R) : EvO G b b' (tLc (iRng1 ta) g tt te vs) ds R := fun gs M H σ S Q q =>
  h gs M H σ S _ fun us es H1 ⟨n, e, r⟩ e1 l1 rp => by
    subst e
    cases rp with
    | cons r1 r2 =>
      cases r2; cases r1
      refine ⟨n, rfl, (hn n r).1, (hn n r).2, ?_⟩
      exact k n r gs M H1 σ (S.step e1 l1) Q fun a ws xs H' rx e2 l2 hn2 ha rr => q a ws xs H' rx (e1.trans e2) l2 (e1.free hn2) ha rr
end
/-! ### list(d), d[k] of data -/
theorem g_listD {X : Cx} (hc : X.calm = true) : CallR X (.type "list") rListDR := call_listDR hc
theorem keys_D {K : PySem.W.Frag} {H : Hp} : ∀ {kvs : List (Key × V)}, RpA K H (kvs.map fun kv => kV kv.1) (kvs.map fun kv => kD kv.1)
  | [] => .nil
  | (.inl i, _) :: r => .cons (.int i) keys_D
  | (.inr s, _) :: r => .cons (.str s) keys_D
theorem c_listD {K : PySem.W.Frag} {kds : List (Key × D)} : ClD K rListDR [.dct kds] (.lst (kds.map fun kv => kD kv.1)) := fun N b H vs Q hN l r k => by
  cases r with
  | cons r1 r =>
    cases r
    cases r1 with
    | @dct a kvs _ ha rk =>
      refine ⟨_, kvs, rfl, (rd_of ha).2, fun q hq => ?_⟩
      have e : (kds.map fun kv => kD kv.1) = kvs.map fun kv => kD kv.1 := by
        have q := rk.keys
        have e1 : (kds.map fun kv => kD kv.1) = (kds.map (·.1)).map kD := by rw [List.map_map]; rfl
        have e2 : (kvs.map fun kv => kD kv.1) = (kvs.map (·.1)).map kD := by rw [List.map_map]; rfl
        rw [e1, e2, q]
      refine k _ _ _ rfl (Ext.new hq) (l.upd fun _ z => nomatch z) ?_
      rw [e]
      exact .lst (by rw [msk_no fun z => hN q z hq]; exact upd_same) keys_D
theorem RpK.get {K : PySem.W.Frag} {H : Hp} {k : Key} {d : D} : ∀ {kvs : List (Key × V)} {kds : List (Key × D)}, RpK K H kvs kds → (kds.find? fun kv => decide (kv.1 = k)).map (·.2) = some d → ∃ v, valV kvs k = some v ∧ Rp K H v d
  | _, _, .nil, h => by simp at h
  | _, _, .cons (k := k0) p q, h => by
    rw [List.find?_cons] at h
    by_cases e : k0 = k
    · rw [decide_eq_true (show (k0, _).1 = k from e)] at h
      cases h
      exact ⟨_, valV_pos e, p⟩
    · rw [decide_eq_false (show ¬ (k0, _).1 = k from e)] at h
      obtain ⟨v, h1, h2⟩ := RpK.get q h
      exact ⟨v, by rw [valV_neg (show ¬ (k0, _).1 = k from e)]; exact h1, h2⟩
/-- d[k] -/
theorem o_ixD {K : PySem.W.Frag} {kds : List (Key × D)} {k : Key} {d : D} (h : (kds.find? fun kv => decide (kv.1 = k)).map (·.2) = some d) : Op2D K (rIxA K) (.dct kds) (kD k) d := fun N b H v u Q hN l r1 r2 q => by
  have eu := kD_v r2
  subst eu
  cases r1 with
  | dct ha rk =>
    obtain ⟨w, h1, h2⟩ := rk.get h
    exact .inr (.inr (.inr ⟨_, w, rfl, by rw [← h1]; exact DGet.r (rd_of ha).2, q _ _ H rfl (Ext.refl H) l h2⟩))
/-! ### a list of new trees -/
theorem ew_lc {G : Gx} {lv b b1 : Nat} {wi : TI} {g : TG} {te : TE} {vs : List Nat} {ds : List Sd} {n : Nat} {it : Nat → D} (h : Nat → D) (hi : EvI G b b1 wi ds n it) (hn : n ≤ 16000)
    (hs : ∀ i, i < n → ∃ ds'', TgR G.K vs g (it i) (wipeD ds vs) ds'' ∧ ∀ b0, EvW G lv b0 b0 te ds'' (fun d => d = h i)) :
    EvW G (lv + 1) b b1 (tLc wi g tYes te vs) ds (fun d => d = .lst ((List.range n).map h)) := fun gs M H σ S Q k =>
  hi gs M H σ S _ fun J gs' H1 e l hg ok => fun D hD => by
    have S1 : Stt G.K G.H0 G.M0 (gs' ++ gs) M b1 H1 σ ds := (S.step e l).ghosts hg
    refine ⟨fun i m H => m = n - i ∧ i ≤ n ∧ ∃ us F, Ext H1 H ∧ Lim b1 H ∧ (∀ a ∈ D :: F, H1 a = none) ∧ (D :: F).Nodup ∧ H D = some (.lst us) ∧ TrL G.K (fun a => M a ∨ a ∈ D :: F) H us ((List.range i).map fun j => full lv (h j)) F,
      ⟨n, by omega, Nat.zero_le _, [], [], Ext.new hD, S1.lim.upd (fun _ z => nomatch z), (fun a m => by rw [List.mem_singleton.mp m]; exact hD), List.nodup_cons.mpr ⟨fun z => (nomatch z), List.nodup_nil⟩, upd_same, .nil⟩, ?_⟩
    rintro i m H2 ⟨rfl, hin, us, F, e2, l2, hF, nd, hacc, tl⟩
    have hlv : ∀ a ∈ D :: F, H2 a ≠ none := fun a ha => by
      rcases List.mem_cons.mp ha with rfl | ha
      · rw [hacc]; exact fun z => nomatch z
      · exact tl.liv a ha
    have S2 : Stt G.K G.H0 G.M0 (gs' ++ gs) (fun a => M a ∨ a ∈ D :: F) b1 H2 σ ds := S1.growP (P := fun a => a ∈ D :: F) hF e2 l2 hlv
    by_cases hlt : i < n
    · refine .inr ⟨ok.go i _ H2 S2.gh' hlt, fun H => ∃ us F, Ext H1 H ∧ Lim b1 H ∧ (∀ a ∈ D :: F, H1 a = none) ∧ (D :: F).Nodup ∧ H D = some (.lst us) ∧ TrL G.K (fun a => M a ∨ a ∈ D :: F) H us ((List.range (i + 1)).map fun j => full lv (h j)) F, fun H' z => ⟨n - (i + 1), by omega, rfl, hlt, z⟩, fun x H3 y => ?_⟩
      obtain ⟨x1, x2, x3⟩ := ok.yld i _ H2 S2.gh' hlt x H3 y
      obtain ⟨ds'', t1, q2⟩ := hs i hlt
      have S3 := (S2.step x1 (x2 _ l2)).wipe vs
      refine t1 _ _ _ _ _ H3 _ x S3 x3 _ fun σ4 S4 ew => ⟨?_, ?_⟩
      · rw [ew]
        exact wipe_sub vs vs fun _ h => h
      · show te σ4 H3 _
        refine q2 b1 _ _ H3 σ4 S4 _ fun z d5 F5 H5 r5 e5 l5 hF5 nd5 tr5 => ?_
        subst r5
        have e25 := x1.trans e5
        have hacc5 : H5 D = some (.lst us) := e25.keep _ _ hacc fun _ z => nomatch z
        have ul : us.length = i := by rw [tl.length]; simp
        refine ⟨us, hacc5, by rw [ul]; exact Nat.lt_of_le_of_lt hin (Nat.lt_of_le_of_lt hn (by decide)), ?_⟩
        have new5 : ∀ a ∈ F5, H2 a = none := fun a ha => x1.free (hF5 a ha)
        have dis : ∀ a ∈ F5, a ∉ D :: F := fun a ha z => hlv a z (new5 a ha)
        have memb : ∀ a, a ∈ D :: (F ++ F5) ↔ a ∈ D :: F ∨ a ∈ F5 := fun a => by simp [or_assoc]
        have hmask : (fun c => (M c ∨ c ∈ D :: F) ∨ c ∈ F5) = fun a => M a ∨ a ∈ D :: (F ++ F5) := by
          funext a
          apply propext
          rw [memb a, or_assoc]
        have kpu : ∀ o, msk (fun a => M a ∨ a ∈ D :: (F ++ F5)) (upd H5 D o) = msk (fun a => M a ∨ a ∈ D :: (F ++ F5)) H5 := fun o => msk_upd (.inr List.mem_cons_self)
        have DnF : D ∉ F := (List.nodup_cons.mp nd).1
        have DnF5 : D ∉ F5 := fun z => dis D z List.mem_cons_self
        have k1 : Kp (msk (fun a => M a ∨ a ∈ D :: F) H2) (msk (fun a => M a ∨ a ∈ D :: (F ++ F5)) H5) := by
          rw [← hmask]
          exact kp_grow (P := fun a => a ∈ F5) new5 e25
        have tl' : TrL G.K (fun a => M a ∨ a ∈ D :: (F ++ F5)) (upd H5 D (.lst (us ++ [z]))) us ((List.range i).map fun j => full lv (h j)) F := tl.chg (by rw [kpu]; exact k1) fun a ha o ho no => by
          rw [upd_ne fun z => DnF (by rw [← z]; exact ha)]
          exact e25.keep a o ho no
        have tr' : Tr G.K (fun a => M a ∨ a ∈ D :: (F ++ F5)) (upd H5 D (.lst (us ++ [z]))) z (full lv (h i)) F5 := tr5.chg (by rw [kpu, hmask]; exact Kp.refl _) fun a ha o ho no => by
          rw [upd_ne fun z => DnF5 (by rw [← z]; exact ha)]
          exact ho
        refine ⟨us ++ [z], F ++ F5, ⟨⟨fun a o ha no => ?_, fun a j ha => ?_⟩, fun a ha => ?_⟩, l5.upd (fun _ z => nomatch z), fun a ha => ?_, ?_, upd_same, ?_⟩
        · rw [upd_ne (ne_of_none ha hD)]
          exact (e2.trans e25).keep a o ha no
        · rw [upd_ne (ne_of_none ha hD)]
          exact (e2.trans e25).pz a j ha
        · by_cases z : a = D
          · rw [z, upd_same]; exact fun z => nomatch z
          · rw [upd_ne z]; exact (e2.trans e25).dom a ha
        · rcases (memb a).mp ha with ha | ha
          · exact hF a ha
          · exact e2.free (new5 a ha)
        · obtain ⟨n1, n2⟩ := List.nodup_cons.mp nd
          refine List.nodup_cons.mpr ⟨fun z => (List.mem_append.mp z).elim n1 DnF5, List.nodup_append.mpr ⟨n2, nd5, fun a ha c hc z => ?_⟩⟩
          rw [← z] at hc
          exact dis a hc (List.mem_cons_of_mem _ ha)
        · have q := tl'.app (.cons tr' .nil)
          simp only [List.append_nil] at q
          have et : ((List.range (i + 1)).map fun j => full lv (h j)) = ((List.range i).map fun j => full lv (h j)) ++ [full lv (h i)] := by rw [List.range_succ, List.map_append]; rfl
          rw [et]
          exact q
    · have en : i = n := by omega
      subst en
      refine .inl ⟨ok.stop _ _ S2.gh', ?_⟩
      have ef : full (lv + 1) (.lst ((List.range i).map h)) = .node .lst ((List.range i).map fun j => full lv (h j)) := by
        show Sh.Tree.node .lst (((List.range i).map h).map (full lv)) = _
        rw [List.map_map]
        rfl
      refine k (.ref D) _ (D :: F) H2 rfl (e.trans e2) l2 (fun a ha => e.free (hF a ha)) nd ?_
      rw [ef]
      exact .node hacc rfl tl
section
variable {G : Gx} {p : Bool} {lv b b' b1 b2 : Nat} {te ta tb ti tv : TE} {tA : TA} {ds : List Sd} {R : D → Prop} {E : DE} {i j : Nat} {t t0 t1 : Tree} {F : List Addr} {d : D} {put : Tree → Tree} {ts : List Tree} {m : Int} {ks : List Key} {key : Key}
/-- d.clear() -/
theorem w_clearT (hds : ds[i]? = some (.tre t F)) (h : EvF G b b1 te ds i t (.node (.dct ks) ts) put) (k : ∀ F', E.nx (ds.set i (.tre (put (.node (.dct []) [])) F')) b1) :
    Wt G b (tDrop (tBM0 G.K "dict" rDClear te)) ds E := fun gs M H σ S Dn w => by
  refine h gs M H σ F S hds _ fun v H1 r F1 F0 F2 e l hr hF tr cl => ?_
  cases tr with
  | @node a o n vs _ F0 ha ho q =>
    obtain ⟨hlk, ho'⟩ := ho
    subst ho'
    have S1 := S.step e l
    refine ⟨.inr (.inr (.inl ⟨rfl, .inl ⟨_, ha⟩⟩)), a, _, rfl, rfl, ha, ?_⟩
    obtain ⟨ma, na⟩ := tre_at S1 hds hF
    have kp : Kp (msk M H1) (msk M (upd H1 a (.dK []))) := by rw [msk_upd ma]; exact Kp.refl _
    have kept : ∀ c, c ∈ F1 ∨ c ∈ F2 ∨ c ∈ F0 → ∀ z, H1 c = some z → (∀ φ, z ≠ .ext φ) → (upd H1 a (.dK [])) c = some z := fun c hc z hz n => by rw [upd_ne (na c hc)]; exact hz
    have tr' := cl M _ (.node (.dct []) []) (a :: []) kp (fun c hc z hz n => kept c (hc.elim .inl fun z => .inr (.inl z)) z hz n) (.node (vs := []) upd_same ⟨rfl, rfl⟩ .nil)
    exact w.nx M b1 _ σ _ (S1.mutT (n := .lst) hds hr hF (fun _ z => nomatch z) (List.nil_sublist _) tr') (k _)
end
theorem g_clear {X : Cx} {K : PySem.W.Frag} (hK : X.K = K) {o : Expr} {to : TE} {apos cpos : Pos} (ho : PE X o to) (hbase : attributeBase o "clear" X.env (eval o X.env) = eval o X.env := by rfl) (hline : (apos.endLine == cpos.line) = true := by rfl) : PE X (.Call (.Attribute o "clear" apos) [] [] cpos) (tBM0 K "dict" rDClear to) := by
  subst hK
  exact pe_dclear ho hbase hline
end Sh
namespace Sh
open PySem PySem.Spec PySem.Calls PyProof.Rows L2
/-! ### trees whose leaves are no objects -/
mutual
def Tree.flat : Tree → Bool
  | .leaf d => flatD d
  | .node _ ts => Tree.flatL ts
def Tree.flatL : List Tree → Bool
  | [] => true
  | t :: ts => t.flat && Tree.flatL ts
end
section
variable {K : PySem.W.Frag} {M M' : Addr → Prop} {H : Hp}
mutual
theorem Tr.anyM : ∀ {v : V} {t : Tree} {F : List Addr}, Tr K M H v t F → t.flat = true → Tr K M' H v t F
  | _, _, _, .leaf r, h => .leaf (Rp.flat r (by rw [Tree.flat] at h; exact h))
  | _, _, _, .node ha ho q, h => .node ha ho (TrL.anyM q (by rw [Tree.flat] at h; exact h))
theorem TrL.anyM : ∀ {vs : List V} {ts : List Tree} {F : List Addr}, TrL K M H vs ts F → Tree.flatL ts = true → TrL K M' H vs ts F
  | _, _, _, .nil, _ => .nil
  | _, _, _, .cons p q, h => by
    rw [Tree.flatL, Bool.and_eq_true] at h
    exact .cons (Tr.anyM p h.1) (TrL.anyM q h.2)
end
end
theorem flatL_map {α : Type} (f : α → Tree) (h : ∀ x, (f x).flat = true) : ∀ xs : List α, Tree.flatL (xs.map f) = true
  | [] => by simp [Tree.flatL]
  | x :: xs => by rw [List.map_cons, Tree.flatL, h x, flatL_map f h xs]; rfl
theorem flatL_leaves : ∀ {ds : List D}, (∀ d ∈ ds, flatD d = true) → Tree.flatL (ds.map .leaf) = true
  | [], _ => by simp [Tree.flatL]
  | d :: ds, h => by rw [List.map_cons, Tree.flatL, Tree.flat, h d List.mem_cons_self, flatL_leaves fun x hx => h x (List.mem_cons_of_mem _ hx)]; rfl
section
variable {G : Gx} {lv b b' b1 b2 n m : Nat} {t tk : TA} {ds : List Sd} {F : Fd} {Ex : L2.St → XK} {es fs : List D} {z : D}
/-- a call whose answer is a new tree without other objects; what is handed in may be our own -/
theorem ew_calKF (ha : EaD G false b b1 t ds es) (hk : EaD G false b1 b2 tk ds fs) (h : Cal F (es ++ fs) z) (hn : es.length = n) (hm : fs.length = m) (hf : (full lv z).flat = true) (ho : F.own = true := by rfl) (ho2 : F.own2 = lv + 2 := by rfl) :
    EvW G lv b b2 (tCl n m (SpD G.K F) (fun vs zs => vs ++ zs) Ex t tk) ds (fun d => d = z) := fun gs M H σ S Q k =>
  ha gs M H σ S _ fun vs es' H1 r1 e1 l1 rp1 => hk gs M H1 σ (S.step e1 l1) _ fun zs fs' H2 r2 e2 l2 rp2 => by
    subst r1 r2
    have S2 := (S.step e1 l1).step e2 l2
    refine ⟨by rw [rp1.length, hn], by rw [rp2.length, hm], es' ++ fs', G.M0, b2, fun a h => S2.liv a (S2.m0 a h), l2.mono (by rw [h.cost]; omega), (rp1.mono (msk_mono e2.toKp)).append rp2, h.n, h.dom, fun v d H3 rd e3 l3 rp3 o => ?_, fun C dd fsV x H3 rx => absurd rx (h.exn C x)⟩
    have o := o ho
    rw [ho2] at o
    obtain ⟨Fn, q1, q2, q3⟩ := o
    have ed := h.res d rd
    subst ed
    exact k v d Fn H3 rfl ((e1.trans e2).trans e3) l3 (fun a m => (e1.trans e2).free (q1 a m)) q2 (q3.anyM hf)
end
end Sh

/-! Sh30: k in d, len(d), d.pop(k). -/
namespace Sh
open PySem PySem.Spec PySem.Calls PyProof.Rows L2
section
variable {K : PySem.W.Frag} {kds : List (Key × D)} {k : Key}
theorem RpK.has {H : Hp} {k : Key} : ∀ {kvs : List (Key × V)} {kds : List (Key × D)}, RpK K H kvs kds → (valV kvs k).isSome = kds.any fun kv => decide (kv.1 = k)
  | _, _, .nil => rfl
  | _, _, .cons (k := k0) p q => by
    rw [List.any_cons]
    by_cases e : k0 = k
    · rw [valV_pos (show (k0, _).1 = k from e), decide_eq_true (show (k0, _).1 = k from e)]; rfl
    · rw [valV_neg (show ¬ (k0, _).1 = k from e), decide_eq_false (show ¬ (k0, _).1 = k from e), RpK.has q]; rfl
theorem o_inK : Op2D K (rInA K) (kD k) (.dct kds) (.bl (kds.any fun kv => decide (kv.1 = k))) := fun N b H v u Q hN l r1 r2 q => by
  have eu := kD_v r1
  subst eu
  cases r2 with
  | dct ha rk => exact .inr (.inr (.inr ⟨_, _, rfl, DGet.r (rd_of ha).2, q _ _ H rfl (Ext.refl H) l (by rw [rk.has]; exact .bl _)⟩))
theorem o_notinK : Op2D K (rNotInA K) (kD k) (.dct kds) (.bl (!kds.any fun kv => decide (kv.1 = k))) := fun N b H v u Q hN l r1 r2 q => by
  have eu := kD_v r1
  subst eu
  cases r2 with
  | dct ha rk => exact .inr (.inr (.inr ⟨_, _, rfl, DGet.r (rd_of ha).2, q _ _ H rfl (Ext.refl H) l (by rw [rk.has]; exact .bl _)⟩))
/-- len of a dict -/
theorem g_lenD {X : Cx} : CallR X (.builtin "len") rLenDR := call_lenDR
theorem c_lenD : ClD K rLenDR [.dct kds] (.int (kds.length : Int)) := fun N b H vs Q hN l r k => by
  cases r with
  | cons r1 r =>
    cases r
    cases r1 with
    | dct ha rk => exact ⟨_, _, rfl, (rd_of ha).2, k _ _ H rfl (Ext.refl H) l (by rw [rk.length]; exact .int _)⟩
end
/-! ### d.pop(k) -/
section
variable {K : PySem.W.Frag} {M : Addr → Prop} {H : Hp}
theorem TrL.erase : ∀ {vs : List V} {ts : List Tree} {F : List Addr} (j : Nat), TrL K M H vs ts F → ∃ F', F'.Sublist F ∧ TrL K M H (vs.eraseIdx j) (ts.eraseIdx j) F'
  | _, _, _, _, .nil => ⟨[], List.Sublist.refl _, .nil⟩
  | _, _, _, 0, .cons (F1 := Fa) (F2 := Fb) p q => ⟨Fb, List.sublist_append_right _ _, q⟩
  | _, _, _, j + 1, .cons (F1 := Fa) (F2 := Fb) p q => by
    obtain ⟨F', h1, h2⟩ := TrL.erase j q
    exact ⟨Fa ++ F', (List.Sublist.refl Fa).append h1, .cons p h2⟩
theorem drop_ne : ∀ {ks : List Key} {vs : List V} {k : Key}, k ∉ ks → dropK (ks.zip vs) k = ks.zip vs
  | [], _, _, _ => by simp [dropK]
  | x :: ks, [], _, _ => by simp [dropK]
  | x :: ks, v :: vs, k, h => by
    have e : ¬ x = k := fun z => h (by rw [z]; exact List.mem_cons_self)
    unfold dropK
    rw [List.zip_cons_cons, List.filter_cons_of_pos (by simpa using e)]
    exact congrArg _ (drop_ne fun z => h (List.mem_cons_of_mem _ z))
theorem dropK_zip : ∀ {ks : List Key} {vs : List V} {j : Nat} {k : Key}, ks.length = vs.length → ks.Nodup → ks[j]? = some k → dropK (ks.zip vs) k = (ks.eraseIdx j).zip (vs.eraseIdx j)
  | [], _, j, k, _, _, h => by simp at h
  | x :: ks, [], j, k, hl, _, _ => by simp at hl
  | x :: ks, v :: vs, 0, k, hl, nd, h => by
    simp at h
    subst h
    obtain ⟨h1, h2⟩ := List.nodup_cons.mp nd
    unfold dropK
    rw [List.zip_cons_cons, List.filter_cons_of_neg (by simp)]
    exact drop_ne h1
  | x :: ks, v :: vs, j + 1, k, hl, nd, h => by
    obtain ⟨h1, h2⟩ := List.nodup_cons.mp nd
    have hj : ks[j]? = some k := by simpa using h
    have e : ¬ x = k := fun z => h1 (by rw [z]; exact List.mem_of_getElem? hj)
    unfold dropK
    rw [List.zip_cons_cons, List.filter_cons_of_pos (by simpa using e)]
    exact congrArg _ (dropK_zip (by simpa using hl) h2 hj)
theorem erase_len {α β : Type} : ∀ {xs : List α} {ys : List β} (j : Nat), xs.length = ys.length → (xs.eraseIdx j).length = (ys.eraseIdx j).length
  | [], [], _, _ => rfl
  | [], _ :: _, _, h => by simp at h
  | _ :: _, [], _, h => by simp at h
  | x :: xs, y :: ys, 0, h => by simpa using h
  | x :: xs, y :: ys, j + 1, h => by
    simp only [List.eraseIdx_cons_succ, List.length_cons]
    rw [erase_len j (by simpa using h)]
end
section
variable {G : Gx} {p : Bool} {lv b b' b1 b2 : Nat} {te ta tb ti tv : TE} {tA : TA} {ds : List Sd} {R : D → Prop} {E : DE} {i j : Nat} {t t0 t1 : Tree} {F : List Addr} {d : D} {put : Tree → Tree} {ts : List Tree} {m : Int} {ks : List Key} {key : Key}
/-- d.pop(k), a statement -/
theorem w_popT (hds : ds[i]? = some (.tre t F)) (h : EvF G b b1 te ds i t (.node (.dct ks) ts) put) (hi : EvD G p b1 b2 ti ds (kD key)) (nd : ks.Nodup) (hj : ks[j]? = some key) (k : ∀ F', E.nx (ds.set i (.tre (put (.node (.dct (ks.eraseIdx j)) (ts.eraseIdx j))) F')) b2) :
    Wt G b (tDrop (tDPop1 te ti)) ds E := fun gs M H σ S Dn w => by
  refine h gs M H σ F S hds _ fun v H1 r F1 F0 F2 e l hr hF tr cl => ?_
  cases tr with
  | @node a o n vs _ F0 ha ho q =>
    obtain ⟨hlk, ho'⟩ := ho
    subst ho'
    refine ⟨a, rfl, .inl ⟨_, .inl ha⟩, hi gs M H1 σ (S.step e l) _ fun u d2 H2 rd e2 l2 rp => ?_⟩
    subst rd
    have eu := kD_v rp
    subst eu
    have S2 := (S.step e l).step e2 l2
    have ha2 := e2.keep _ _ ha fun _ z => nomatch z
    have hv : valV (ks.zip vs) key = vs[j]? := valV_zip hlk nd hj
    have hjv : j < vs.length := by
      have := (List.getElem?_eq_some_iff.mp hj).1
      omega
    rw [List.getElem?_eq_getElem hjv] at hv
    refine ⟨_, key, _, ha2, rfl, hv, ?_⟩
    rw [dropK_zip hlk nd hj]
    obtain ⟨ma, na⟩ := tre_at S2 hds hF
    obtain ⟨F0', hs, q0⟩ := q.erase j
    generalize ho' : HO.dK ((ks.eraseIdx j).zip (vs.eraseIdx j)) = o'
    have hx : ∀ φ, o' ≠ .ext φ := fun φ z => by rw [← ho'] at z; cases z
    have kp : Kp (msk M H1) (msk M (upd H2 a o')) := by rw [msk_upd ma]; exact msk_mono e2.toKp
    have kept : ∀ c, c ∈ F1 ∨ c ∈ F2 ∨ c ∈ F0 → ∀ z, H1 c = some z → (∀ φ, z ≠ .ext φ) → (upd H2 a o') c = some z := fun c hc z hz n => by rw [upd_ne (na c hc)]; exact e2.keep c z hz n
    have q2 := q0.chg kp fun c hc z hz n => kept c (.inr (.inr (hs.subset hc))) z hz n
    have tr' := cl M _ (.node (.dct (ks.eraseIdx j)) (ts.eraseIdx j)) (a :: F0') kp (fun c hc z hz n => kept c (hc.elim .inl fun z => .inr (.inl z)) z hz n) (.node upd_same ⟨erase_len j hlk, ho'.symm⟩ q2)
    exact w.nx M b2 _ σ _ (S2.mutT (n := .lst) hds hr hF hx hs tr') (k _)
end
theorem g_popD {X : Cx} {o e : Expr} {to ty : TE} {apos cpos : Pos} (ho : PE X o to) (he : PE X e ty) (m : M1 X o "pop" apos e cpos := by exact ⟨rfl, rfl, rfl, rfl⟩) : PE X (.Call (.Attribute o "pop" apos) [e] [] cpos) (tDPop1 to ty) := pe_dpop1 ho he m
end Sh

/-! Sh31: own classes: a tree that is handed in to be changed, instances made, read, asked by methods. -/
namespace Sh
open PySem PySem.Spec PyProof.Rows L2

/-! ### a tree that is handed in to be changed -/
def hidL (L : List Addr) (H : Hp) : Hp := fun a => if a ∈ L then none else H a
theorem hidL_in {L : List Addr} {H : Hp} {a : Addr} (h : a ∈ L) : hidL L H a = none := if_pos h
theorem hidL_no {L : List Addr} {H : Hp} {a : Addr} (h : a ∉ L) : hidL L H a = H a := if_neg h
theorem hidL_of {L : List Addr} {H : Hp} {a : Addr} {o : HO} (h : hidL L H a = some o) : a ∉ L ∧ H a = some o := by
  by_cases e : a ∈ L
  · rw [hidL_in e] at h; cases h
  · rw [hidL_no e] at h; exact ⟨e, h⟩
theorem hidL_ext (L : List Addr) (H : Hp) : Ext (hidL L H) H := ⟨Kp.sub fun a o h => (hidL_of h).2, fun a h z => by
  unfold hidL at h
  split at h
  · exact h rfl
  · exact h z⟩
structure Fm where
  n : Nat
  dom : Tree → List D → Prop
  cost : Tree → List D → Nat := fun _ _ => 0
  res : Tree → List D → Tree → D → Prop
  exn : Tree → List D → Tree → Addr → List (Str × D) → Prop := fun _ _ _ _ _ => False
/-- what was masked, without the tree's elder objects, with its newer ones -/
def mskT (N : Addr → Prop) (F F' : List Addr) : Addr → Prop := fun c => (N c ∧ c ∉ F) ∨ c ∈ F'
/-- the tree whose root is at a stood at F and is now t' at F' -/
structure LeftT (K : PySem.W.Frag) (N : Addr → Prop) (H H' : Hp) (a : Addr) (F : List Addr) (t' : Tree) (F' : List Addr) : Prop where
  ext : Ext (hidL F H) H'
  new : ∀ c ∈ F', c ∈ F ∨ H c = none
  nd : F'.Nodup
  tr : Tr K (mskT N F F') H' (.ref a) t' F'
def SpM (K : PySem.W.Frag) (F : Fm) : Sp := fun vs H Q E => ∃ (a : Addr) (vs' : List V) (t : Tree) (Fr : List Addr) (ds : List D) (N : Addr → Prop) (b : Nat),
  vs = .ref a :: vs' ∧ (∀ c, N c → H c ≠ none) ∧ (∀ c ∈ a :: Fr, N c) ∧ (a :: Fr).Nodup ∧ Lim (F.cost t ds + b) H ∧ Tr K N H (.ref a) t (a :: Fr) ∧ RpA K (msk N H) vs' ds ∧ ds.length = F.n ∧ F.dom t ds ∧
  (∀ v d t' Fr' H', F.res t ds t' d → flatD d = true → Rp K H' v d → Lim b H' → LeftT K N H H' a (a :: Fr) t' (a :: Fr') → Q v H') ∧
  (∀ C dd fsV fs t' Fr' H', F.exn t ds t' C fs → Lim b H' → LeftT K N H H' a (a :: Fr) t' (a :: Fr') → (dd ∈ a :: Fr ∨ H dd = none) → dd ∉ a :: Fr' → H' dd = some (.xd fsV) → RpF K (msk (mskT N (a :: Fr) (a :: Fr')) H') fsV fs → E (.ref C) (some dd) H')
theorem SpM.len {K : PySem.W.Frag} {F : Fm} {ps : List Str} (h : ps.length = F.n + 1) : ∀ vs H Q E, SpM K F vs H Q E → vs.length = ps.length := fun vs H Q E ⟨a, vs', t, Fr, ds, N, b, h1, h2, h3, h4, h5, h6, h7, h8, h9⟩ => by
  rw [h1, List.length_cons, h7.length, h8, h]
/-- the body of such a def: its first slot is the tree -/
abbrev gMut (K : PySem.W.Frag) (a : Addr) (Fr : List Addr) (t : Tree) (H : Hp) (N : Addr → Prop) (E : XK) (F : Fm) (ds : List D) (b : Nat) : Gx := ⟨K, hidL (a :: Fr) H, fun c => N c ∧ c ∉ a :: Fr, WD E, fun C fs sd b' => b ≤ b' ∧ ∃ t' Fr', sd[0]? = some (.tre t' (a :: Fr')) ∧ F.exn t ds t' C fs, true⟩
abbrev eMut (a : Addr) (t : Tree) (F : Fm) (ds : List D) (b : Nat) : DE := { nx := fun sd b' => b ≤ b' ∧ ∃ t' Fr', sd[0]? = some (.tre t' (a :: Fr')) ∧ F.res t ds t' .non, rt := fun d sd b' => b ≤ b' ∧ flatD d = true ∧ ∃ t' Fr', sd[0]? = some (.tre t' (a :: Fr')) ∧ F.res t ds t' d }
section
variable {P : Program} {w : World} {K : PySem.W.Frag} {mg : Str → Option Value} {base : Heap}
/-- the end of such a body -/
theorem Stt.left {H H' : Hp} {N M : Addr → Prop} {b : Nat} {σ : List (Option V)} {sd : List Sd} {gs : List (V × D)} {a : Addr} {Fr Fr' : List Addr} {t' : Tree} {v0 : Tree} (S : Stt K (hidL (a :: Fr) H) (fun c => N c ∧ c ∉ a :: Fr) gs M b H' σ sd) (h : sd[0]? = some (.tre t' (a :: Fr'))) (hn : ∀ n ts, t' = .node n ts ∨ True) :
    LeftT K N H H' a (a :: Fr) t' (a :: Fr') ∧ (∀ c, mskT N (a :: Fr) (a :: Fr') c → M c) := by
  have hi : 0 < σ.length := by rw [S.len]; exact (List.getElem?_eq_some_iff.mp h).1
  obtain ⟨v, e, m, nd, tr⟩ := S.sl 0 _ _ (List.getElem?_eq_getElem hi) h
  have es : σ[0]? = some (some v) := by rw [List.getElem?_eq_getElem hi, e]
  have hv : v = .ref a := by
    cases tr with
    | node _ _ _ => rfl
  subst hv
  have sub : ∀ c, mskT N (a :: Fr) (a :: Fr') c → M c := fun c hc => hc.elim (fun z => S.m0 c z) (m c)
  have kp : Kp (msk M H') (msk (mskT N (a :: Fr) (a :: Fr')) H') := msk_sub sub
  refine ⟨⟨S.ext, fun c hc => ?_, nd, tr.chg kp fun c _ o ho _ => ho⟩, sub⟩
  have q := S.new c (m c hc) (S.ownNew 0 c ⟨_, _, es, h, hc⟩)
  by_cases hm : c ∈ a :: Fr
  · exact .inl hm
  · rw [hidL_no hm] at q; exact .inr q
theorem start_mut {H : Hp} {N : Addr → Prop} {b : Nat} {names : List Str} {a : Addr} {Fr : List Addr} {t : Tree} {vs : List V} {ds : List D} (hN : ∀ c, N c → H c ≠ none) (hF : ∀ c ∈ a :: Fr, N c) (nd : (a :: Fr).Nodup) (hl : Lim b H) (tr : Tr K N H (.ref a) t (a :: Fr)) (r : RpA K (msk N H) vs ds) :
    Stt K (hidL (a :: Fr) H) (fun c => N c ∧ c ∉ a :: Fr) [] N b H (L2.start names (.ref a :: vs)) (.tre t (a :: Fr) :: slots (names.length - 1) ds) := by
  have len : (L2.start names (V.ref a :: vs)).length = (Sd.tre t (a :: Fr) :: slots (names.length - 1) ds).length := by
    unfold L2.start slots
    simp [r.length]
    omega
  have at0 : ∀ i c, At (L2.start names (V.ref a :: vs)) (Sd.tre t (a :: Fr) :: slots (names.length - 1) ds) i c → i = 0 ∧ c ∈ a :: Fr := fun i c ⟨s, e, h1, h2, h3⟩ => by
    cases i with
    | zero => cases h2; exact ⟨rfl, h3⟩
    | succ i =>
      rw [List.getElem?_cons_succ] at h2
      have hm := List.mem_of_getElem? h2
      unfold slots at hm
      rcases List.mem_append.mp hm with q | q
      · obtain ⟨d, _, e1⟩ := List.mem_map.mp q
        rw [← e1] at h3
        cases h3
      · rw [(List.mem_replicate.mp q).2] at h3
        cases h3
  refine ⟨hidL_ext _ H, fun c h => h.1, fun c h n => ?_, hN, hl, len, fun i s d h1 h2 => ?_, fun i j c h1 h2 => by rw [(at0 i c h1).1, (at0 j c h2).1], fun i c h1 z => z.2 (at0 i c h1).2, fun q hq => by cases hq⟩
  · exact hidL_in (Classical.byContradiction fun z => n ⟨h, z⟩)
  · cases i with
    | zero =>
      cases h2
      have e : s = some (.ref a) := by
        have q : (L2.start names (V.ref a :: vs))[0]? = some (some (.ref a)) := by unfold L2.start; simp
        rw [q] at h1
        exact (Option.some.inj h1).symm
      subst e
      exact ⟨_, rfl, hF, nd, tr⟩
    | succ i =>
      rw [List.getElem?_cons_succ] at h2
      have h1' : (vs.map some ++ List.replicate (names.length - (vs.length + 1)) none)[i]? = some s := by
        unfold L2.start at h1
        simpa using h1
      by_cases hi : i < ds.length
      · unfold slots at h2
        rw [List.getElem?_append_left (by rw [List.length_map]; exact hi), List.getElem?_map, List.getElem?_eq_getElem hi] at h2
        cases h2
        obtain ⟨v, e, rv⟩ := r.getD (List.getElem?_eq_getElem hi)
        rw [List.getElem?_append_left (by rw [List.length_map, r.length]; exact hi), List.getElem?_map, e] at h1'
        cases h1'
        exact ⟨v, rfl, rv⟩
      · unfold slots at h2
        rw [List.getElem?_append_right (by rw [List.length_map]; omega)] at h2
        have e := (List.mem_replicate.mp (List.mem_of_getElem? h2)).2
        rw [e]
        trivial
/-- THE RULE for a def whose first parameter is a tree that it changes -/
theorem mut_fn {x qual : Str} {st : Stmt} {f : Addr} {fd : FuncData} {N ps : List Str} {k : Nat} {F : Fm} {dvs : List V} {kws : List (Str × V)} (U : FunD K x qual (defArgs st) (defBody st) (defScope st) dvs kws f fd ∨ Fun K x qual st f fd) (S : FnScope N ps (defScope st)) (hn : ps.length = F.n + 1)
    (hbody : ∀ (cdv : Value) (A : Around) (outer : List Env) (s : Shared) (H : Hp) (E : XK), Room k (A.deeper (envOfC qual (defScope st) s.heap.objs.size f cdv)) →
      Takes (cxOf (L2.CX P w) P w K mg base N qual (defScope st) f cdv A outer s H E) (WD E) →
      ∃ t, PSs (cxOf (L2.CX P w) P w K mg base N qual (defScope st) f cdv A outer s H E) (defBody st) t ∧
        ∀ (a : Addr) (Fr : List Addr) (tr : Tree) (N' : Addr → Prop) (ds : List D) (b : Nat), ds.length = F.n → F.dom tr ds → (gMut K a Fr tr H N' E F ds b).Acc →
          Wt (gMut K a Fr tr H N' E F ds b) (F.cost tr ds + b) t (.tre tr (a :: Fr) :: slots (N.length - 1) ds) (eMut a tr F ds b)) :
    FnOk P w K mg base (L2.CX P w) (k + 1) f fd ps (SpM K F) := by
  have main : ∀ (cdv : Value) (A : Around) (outer : List Env) (s : Shared) (H : Hp) (vs : List V) (Q : VK) (E : XK), Room k (A.deeper (envOfC qual (defScope st) s.heap.objs.size f cdv)) → SpM K F vs H Q E →
      ∃ t, PSs (cxOf (L2.CX P w) P w K mg base N qual (defScope st) f cdv A outer s H E) (defBody st) t ∧ t { nx := fun _ H' => Q .non H', rt := Q } (L2.start N vs) H := by
    intro cdv A outer s H vs Q E hr hsp
    obtain ⟨t, h1, h2⟩ := hbody cdv A outer s H E hr (takes_of (E := E) rfl rfl rfl rfl)
    obtain ⟨a, vs', tr, Fr, ds, N', b, rfl, a1, a2, a3, a4, a5, a6, a7, a8, a9, a10⟩ := hsp
    refine ⟨t, h1, h2 a Fr tr N' ds b a7 a8 (fun gs M b' H' σ sd C dd fsV fs S q1 q2 q3 q4 q5 => ?_) [] N' H _ (start_mut a1 a2 a3 a4 a5 a6) _ ⟨fun M b' H' σ' ds' S' e => ?_, fun M b' H' σ' ds' v d S' e rp ro => ?_, fun _ _ _ _ _ _ e => e.elim, fun _ _ _ _ _ _ e => e.elim⟩⟩
    · obtain ⟨q6, t', Fr', q7, q8⟩ := q5
      obtain ⟨L, sub⟩ := S.left (v0 := tr) q7 fun _ _ => .inr trivial
      refine a10 C dd fsV fs t' Fr' H' q8 (S.lim.mono q6) L ?_ ?_ q1 ?_
      · by_cases hm : dd ∈ a :: Fr
        · exact .inl hm
        · have q2' : hidL (a :: Fr) H dd = none := q2
          rw [hidL_no hm] at q2'; exact .inr q2'
      · exact fun z => q3 (sub dd (.inr z))
      · have q4' : RpF K (msk M H') fsV fs := q4
        exact q4'.mono (msk_sub sub)
    · obtain ⟨q6, t', Fr', q7, q8⟩ := e
      obtain ⟨L, sub⟩ := S'.left (v0 := tr) q7 fun _ _ => .inr trivial
      exact a9 .non .non t' Fr' H' q8 rfl .non (S'.lim.mono q6) L
    · obtain ⟨q6, qf, t', Fr', q7, q8⟩ := e
      obtain ⟨L, sub⟩ := S'.left (v0 := tr) q7 fun _ _ => .inr trivial
      exact a9 v d t' Fr' H' q8 qf (rp.flat qf) (S'.lim.mono q6) L
  rcases U with U | U
  · exact U.ok S (SpM.len hn) main
  · obtain ⟨oc, od, kV, doc, pm, an, cdv, ct, osl, rfl, lk, hcd⟩ := U.ex
    exact fn_of lk hcd S (SpM.len hn) fun A outer s H vs Q E hr hsp => main cdv A outer s H vs Q E hr hsp
end

/-! ### C(..) -/
/-- C(..): E is told the slots -/
def tMk (C : Addr) (n m : Nat) (sp : Sp) (gV : List V → List V → List V) (E : L2.St → XK) (t tk : TA) : TE := fun σ H Q => t σ H fun vs H1 => tk σ H1 fun zs H2 => vs.length = n ∧ zs.length = m ∧ ∀ x dx, H2 x = none → H2 dx = none → dx ≠ x →
  sp (gV (.ref x :: vs) zs) (upd (upd H2 dx (.own x)) x (.ins C dx [])) (fun v H3 => v = .non ∧ Q (.ref x) H3) (E σ)
section
variable {X : Cx} {CX : CXT} {k n m : Nat} {f C : Addr} {fd : FuncData} {ps ks : List Str} {sp : Sp} {E : L2.St → XK} {x mm : Str} {p pos apos : Pos} {e o : Expr} {es : List Expr} {kws : List Keyword} {ta : TE} {t tk : TA} {gV : List V → List V → List V}
theorem run_mk {pins : List (Addr × Obj)} {σ : L2.St} {H : Hp} {s : Shared} {Q : VK} {us ws : List Value} {vs zs : List V} (M : Mk X.K C f) (F : FnOk X.prog X.w X.K X.mg X.base CX k f fd ps sp) (hr : Room (k + 1) X.A) (hb : Kb X.K fd ps (n + 1) ks gV)
    (hx : PassesAt CX X σ (E σ)) (I : Inv X pins σ H s) (r : Vals vs us) (rz : Vals zs ws) (l1 : vs.length = n) (l2 : zs.length = ks.length)
    (h : ∀ x dx, H x = none → H dx = none → dx ≠ x → sp (gV (.ref x :: vs) zs) (upd (upd H dx (.own x)) x (.ins C dx [])) (fun v H2 => v = .non ∧ Q (.ref x) H2) (E σ))
    (hxe : ∀ H2 s2 e s', CX X.stack (upd (upd H (s.heap.objs.size) (.own (s.heap.objs.size + 1))) (s.heap.objs.size + 1) (.ins C s.heap.objs.size [])) s2 (E σ) e s' → H2 = H → Inv X pins σ (upd (upd H (s.heap.objs.size) (.own (s.heap.objs.size + 1))) (s.heap.objs.size + 1) (.ins C s.heap.objs.size [])) s2 → X.xe e s') :
    wpAny (model X.prog X.w) X.A (call (.ref C) us (ks.zip ws)) (EP X pins σ Q) X.xe s := by
  have hq := h (s.heap.objs.size + 1) s.heap.objs.size (I.hok.fresh (Nat.le_succ _)) (I.hok.fresh (Nat.le_refl _)) (Nat.ne_of_lt (Nat.lt_succ_self _))
  have I2 := Inv.made (C := C) I
  obtain ⟨xs, r2, b⟩ := hb.to _ (.ref (s.heap.objs.size + 1) :: us) ws (.ref (s.heap.objs.size + 1) :: vs) zs I2.kIn (.cons rfl r) rz (by rw [List.length_cons, l1]) l2
  refine wpAny_call (make_map (f := f) I.kIn M.makes M.init (beq_iff_eq.mp M.fn) (codeAny_mono (F.run _ X.stack _ _ ⟨Value.ref (s.heap.objs.size + 1) :: us, ks.zip ws⟩ xs _ _ (E σ) (hr.make C us (ks.zip ws))
    (I2.env0.make C us (ks.zip ws)) b r2 hq) fun r s' hq' => ?_))
  cases r with
  | error e => exact hxe _ _ e s' hq' rfl I2
  | ok fl =>
    cases fl with
    | ret u =>
      obtain ⟨v, H', I3, rv, ev, q3⟩ := I2.after hq'
      subst ev
      exact ⟨rv, ⟨V.ref (s.heap.objs.size + 1), H', I3, rfl, q3⟩⟩
    | next => exact False.elim hq'
    | brk => exact False.elim hq'
    | cont => exact False.elim hq'
/-- C(e, .., k = v) -/
theorem pe_mk_ (M : Mk X.K C f) (F : FnOk X.prog X.w X.K X.mg X.base CX k f fd ps sp) (hr : Room (k + 1) X.A) (hg : Gl X x) (hm : X.mg x = some (.ref C)) (hb : Kb X.K fd ps (n + 1) ks gV) (hx : ∀ σ, PassesAt CX X σ (E σ))
    (ha : PA X (e :: es) t) (hkw : PK X kws tk) (hmm : ks.length = m := by rfl) (hall : (backToKw pos (keywordEach kws X.env)).all (·.1.isSome) = true := by rfl) (hks : (backToKw pos (keywordEach kws X.env)).filterMap (·.1) = ks := by rfl)
    (hdb : (x == ("__debug__" : Str)) = false := by decide) (he : starEach (e :: es) X.env = (false, eval e X.env) :: starEach es X.env := by rfl)
    (hpl : ((backTo pos (starEach (e :: es) X.env)).any (·.1) || (backToKw pos (keywordEach kws X.env)).any (·.1.isNone)) = false := by rfl) :
    PE X (.Call (.Name x p) (e :: es) kws pos) (tMk C n m sp gV E t tk) := by
  refine ⟨fun pins s σ H Q I h => ?_⟩
  refine wpAny_Call_Name_kw (ld_glob I hg hm ?_ hdb)
  refine PySem.W.callWith_KW (h₀ := X.base) I.ok.mod.kin M.kp hall (thn (ha.run pos pins s σ H _ I h) fun us s1 ⟨vs, H1, I1, r, q⟩ => ?_) hpl he
  refine thn (hkw.run pos pins s1 σ H1 _ I1 q) fun ws s2 ⟨zs, H2, I2, rz, l1, l2, q2⟩ => ⟨I2.kIn, ?_⟩
  rw [hks]
  exact run_mk M F hr hb (hx σ) I2 r rz l1 (l2.trans hmm.symm) q2 fun _ _ e s' c _ I3 => hx σ pins _ _ e s' I3 c
/-- C(k = v, ..), C() -/
theorem pe_mk0 (M : Mk X.K C f) (F : FnOk X.prog X.w X.K X.mg X.base CX k f fd ps sp) (hr : Room (k + 1) X.A) (hg : Gl X x) (hm : X.mg x = some (.ref C)) (hb : Kb X.K fd ps 1 ks gV) (hx : ∀ σ, PassesAt CX X σ (E σ))
    (hkw : PK X kws tk) (hmm : ks.length = m := by rfl) (hall : (backToKw pos (keywordEach kws X.env)).all (·.1.isSome) = true := by rfl) (hks : (backToKw pos (keywordEach kws X.env)).filterMap (·.1) = ks := by rfl)
    (hdb : (x == ("__debug__" : Str)) = false := by decide)
    (hpl : ((backTo pos (starEach [] X.env)).any (·.1) || (backToKw pos (keywordEach kws X.env)).any (·.1.isNone)) = false := by rfl) :
    PE X (.Call (.Name x p) [] kws pos) (tMk C 0 m sp gV E tNil tk) := by
  refine ⟨fun pins s σ H Q I h => ?_⟩
  refine wpAny_Call_Name_kw (ld_glob I hg hm ?_ hdb)
  refine PySem.W.callWith_KW0 (h₀ := X.base) I.ok.mod.kin M.kp hall ?_ hpl
  refine thn (hkw.run pos pins s σ H _ I h) fun ws s2 ⟨zs, H2, I2, rz, l1, l2, q2⟩ => ⟨I2.kIn, ?_⟩
  rw [hks]
  exact run_mk (us := []) (vs := []) M F hr hb (hx σ) I2 .nil rz rfl (l2.trans hmm.symm) q2 fun _ _ e s' c _ I3 => hx σ pins _ _ e s' I3 c
end
section
variable {G : Gx} {p : Bool} {lv b b' b1 b2 : Nat} {te ta tb : TE} {t tk : TA} {ds : List Sd} {n m : Nat} {E : L2.St → XK} {C : Addr} {F : Fm} {gV : List V → List V → List V} {gD : List D → List D → List D}
def t0C (C : Addr) : Tree := .node (.ins C []) []
/-- a new instance, a tree of our own -/
theorem ews_mk {Ra Rk : List D → Prop} {R : D → Prop} (ha : EvA G true b b1 t ds Ra) (hk : EvA G true b1 b2 tk ds Rk) (hg : ∀ (H : Hp) x vs zs es fs, RpA G.K H vs es → RpA G.K H zs fs → ∃ ws, gV (x :: vs) zs = x :: ws ∧ RpA G.K H ws (gD es fs)) (hm : ∀ fs, Rk fs → fs.length = m)
    (h : ∀ es fs, Ra es → Rk fs → es.length = n ∧ (gD es fs).length = F.n ∧ F.dom (t0C C) (gD es fs) ∧ F.cost (t0C C) (gD es fs) + b' ≤ b2 ∧ (∀ t' d, F.res (t0C C) (gD es fs) t' d → d = .non ∧ ∃ z, t' = full lv z ∧ R z) ∧
      ∀ t' D x, F.exn (t0C C) (gD es fs) t' D x → E = WE G.W ∧ G.Acc ∧ G.X D x ds b') :
    EvW G lv b b' (tMk C n m (SpM G.K F) gV E t tk) ds R := fun gs M H σ S Q k =>
  ha gs M H σ S _ fun vs es H1 r1 e1 l1 rp1 => hk gs M H1 σ (S.step e1 l1) _ fun zs fs H2 r2 e2 l2 rp2 => by
    have S2 := (S.step e1 l1).step e2 l2
    obtain ⟨a1, a2, a3, a4, a5, a6⟩ := h es fs r1 r2
    refine ⟨by rw [rp1.length, a1], by rw [rp2.length, hm fs r2], fun x dx hx hdx ne => ?_⟩
    obtain ⟨ws, ew, rw0⟩ := hg _ (.ref x) vs zs es fs (rp1.mono (msk_mono e2.toKp)) rp2
    rw [ew]
    have hx1 : (upd H2 dx (.own x)) x = none := by rw [upd_ne (Ne.symm ne)]; exact hx
    have eN : Ext H2 (upd (upd H2 dx (.own x)) x (.ins C dx [])) := (Ext.new hdx).trans (Ext.new hx1)
    have lN : Lim (F.cost (t0C C) (gD es fs) + b') (upd (upd H2 dx (.own x)) x (.ins C dx [])) := Lim.upd (Lim.upd (l2.mono a4) (fun _ z => by cases z)) (fun _ z => by cases z)
    have kg : Kp (msk (mmk true M G.M0) H2) (msk (fun c => M c ∨ c = x) (upd (upd H2 dx (.own x)) x (.ins C dx []))) := kp_grow (fun c h => by rw [h]; exact hx) eN
    have nM : ¬ M x := fun z => S2.liv x z hx
    have upE : ∀ {Hz : Hp}, Ext (hidL [x] (upd (upd H2 dx (.own x)) x (.ins C dx []))) Hz → Ext H2 Hz := fun {Hz} q => by
      have at_ : ∀ c, H2 c ≠ none → hidL [x] (upd (upd H2 dx (.own x)) x (.ins C dx [])) c = H2 c := fun c hc => by
        have n1 : c ≠ x := fun z => hc (by rw [z]; exact hx)
        have n2 : c ≠ dx := fun z => hc (by rw [z]; exact hdx)
        rw [hidL_no fun z => n1 (List.mem_singleton.mp z), upd_ne n1, upd_ne n2]
      exact ⟨⟨fun c o ho hn => q.keep c o (by rw [at_ c (by rw [ho]; exact fun z => nomatch z)]; exact ho) hn, fun c i ho => q.pz c i (by rw [at_ c (by rw [ho]; exact fun z => nomatch z)]; exact ho)⟩, fun c hc => q.dom c (by rw [at_ c hc]; exact hc)⟩
    refine ⟨x, ws, t0C C, [], gD es fs, fun c => M c ∨ c = x, b', rfl, fun c hc => ?_, fun c hc => ?_, (by simp), lN, .node (n := .ins C []) (vs := []) upd_same ⟨rfl, dx, rfl⟩ .nil, rw0.mono kg, a2, a3, fun v d t' Fr' H' rs fl rv lm L => ?_, fun D dd fsV y t' Fr' H' rs lm L hd1 hd2 hx' ry => ?_⟩
    · rcases hc with hc | hc
      · exact eN.dom c (S2.liv c hc)
      · rw [hc, upd_same]; exact fun z => nomatch z
    · rw [List.mem_singleton.mp hc]; exact .inr rfl
    · obtain ⟨ed, z, ez, rz⟩ := a5 t' d rs
      subst ez ed
      cases rv
      have e3 := upE L.ext
      have hF : ∀ c ∈ x :: Fr', H c = none := fun c hc => (e1.trans e2).free (by
        rcases L.new c hc with q | q
        · rw [List.mem_singleton.mp q]; exact hx
        · exact eN.free q)
      refine ⟨rfl, k (.ref x) z (x :: Fr') H' rz ((e1.trans e2).trans e3) lm hF L.nd (L.tr.chg (msk_sub fun c hc => ?_) fun c _ o ho _ => ho)⟩
      rcases hc with hc | hc
      · refine .inl ⟨.inl hc, fun q => ?_⟩
        rw [List.mem_singleton.mp q] at hc
        exact nM hc
      · exact .inr hc
    · obtain ⟨h1, h2, h3⟩ := a6 t' D y rs
      subst h1
      have e3 := upE L.ext
      have S3 := S2.step e3 lm
      have hdd : H2 dd = none := by
        rcases hd1 with q | q
        · rw [List.mem_singleton.mp q]; exact hx
        · exact eN.free q
      refine h2 gs M b' H' σ ds D dd fsV y S3 hx' (S2.ext.free hdd) (fun z => S2.liv dd z hdd) ?_ h3
      have q1 : RpF G.K (msk M H') fsV y := ry.mono (msk_sub fun c hc => .inl ⟨.inl hc, fun q => by rw [List.mem_singleton.mp q] at hc; exact nM hc⟩)
      cases e : G.pm with
      | true => exact q1
      | false => exact q1.mono (msk_sub S3.m0)
end
end Sh

/-! Sh32: instances: methods asked, fields read, isinstance, own == and len; exceptions of two and three fields. -/
namespace Sh
open PySem PySem.Spec PyProof.Rows L2

/-! ### o.m(..) of data -/
def tMe (C : Addr) (m : Str) (n mk : Nat) (sp : Sp) (gV : List V → List V → List V) (E : L2.St → XK) (ta : TE) (t tk : TA) : TE := fun σ H Q => ta σ H fun x H1 => ∃ a dx fs, x = .ref a ∧ H1 a = some (.ins C dx fs) ∧ fs.lookup m = none ∧
  t σ H1 fun vs H2 => tk σ H2 fun zs H3 => vs.length = n ∧ zs.length = mk ∧ sp (gV (x :: vs) zs) H3 Q (E σ)
section
variable {X : Cx} {CX : CXT} {k n mk : Nat} {f C : Addr} {fd : FuncData} {ps ks : List Str} {sp : Sp} {E : L2.St → XK} {m : Str} {p pos apos : Pos} {e o : Expr} {es : List Expr} {kws : List Keyword} {ta : TE} {t tk : TA} {gV : List V → List V → List V}
theorem pe_me {pl : Sem Bool} (he : PE X o ta) (c : Cls X.K C) (hm : Meth X.K C m f) (F : FnOk X.prog X.w X.K X.mg X.base CX k f fd ps sp) (hr : Room k X.A) (hb : Kb X.K fd ps (n + 1) ks gV) (hx : ∀ σ, PassesAt CX X σ (E σ)) (ha : PA X (e :: es) t) (hkw : PK X kws tk)
    (hmm : ks.length = mk := by rfl) (hall : (backToKw pos (keywordEach kws X.env)).all (·.1.isSome) = true := by rfl) (hks : (backToKw pos (keywordEach kws X.env)).filterMap (·.1) = ks := by rfl)
    (hst : starEach (e :: es) X.env = (false, eval e X.env) :: starEach es X.env := by rfl) (hpl : ((backTo pos (starEach (e :: es) X.env)).any (·.1) || (backToKw pos (keywordEach kws X.env)).any (·.1.isNone)) = false := by rfl)
    (ht : eval (.Call (.Attribute o m apos) (e :: es) kws pos) X.env = (do
      let ov ← eval o X.env
      standAt apos.atName
      let (f, first) ← holding [ov] (getMethod ov m pl)
      callWith pos f first (backTo pos (starEach (e :: es) X.env)) (backToKw pos (keywordEach kws X.env))) := by rfl) :
    PE X (.Call (.Attribute o m apos) (e :: es) kws pos) (tMe C m n mk sp gV E ta t tk) := by
  refine ⟨fun pins s σ H Q I h => ?_⟩
  refine PySem.W.methodCall_KW (pl := pl) (thn (he.run pins s σ H _ I h) fun u s1 ⟨x, H1, I1, rx, a, dx, fs, ex, ea, l, q⟩ => ?_) ht
  subst ex
  obtain rfl : u = Value.ref a := rx
  refine getmeth_ok I1 ea c hm l ?_
  refine PySem.W.callWith_KW (first := [.ref a]) (h₀ := X.base) I.ok.mod.kin hm.kp hall (thn (ha.run pos pins s1 σ H1 _ I1 q) fun us s2 ⟨vs, H2, I2, r, q2⟩ => ?_) hpl hst
  refine thn (hkw.run pos pins s2 σ H2 _ I2 q2) fun ws s3 ⟨zs, H3, I3, rz, l1, l2, q3⟩ => ⟨I3.kIn, ?_⟩
  rw [hks]
  exact run_cl (us := .ref a :: us) (vs := .ref a :: vs) F hr hb (hx σ) I3 (.cons rfl r) rz (by rw [List.length_cons, l1]) (l2.trans hmm.symm) q3
theorem pe_me0 {pl : Sem Bool} (he : PE X o ta) (c : Cls X.K C) (hm : Meth X.K C m f) (F : FnOk X.prog X.w X.K X.mg X.base CX k f fd ps sp) (hr : Room k X.A) (hb : Kb X.K fd ps 1 ks gV) (hx : ∀ σ, PassesAt CX X σ (E σ)) (hkw : PK X kws tk)
    (hmm : ks.length = mk := by rfl) (hall : (backToKw pos (keywordEach kws X.env)).all (·.1.isSome) = true := by rfl) (hks : (backToKw pos (keywordEach kws X.env)).filterMap (·.1) = ks := by rfl)
    (hpl : ((backTo pos (starEach [] X.env)).any (·.1) || (backToKw pos (keywordEach kws X.env)).any (·.1.isNone)) = false := by rfl)
    (ht : eval (.Call (.Attribute o m apos) [] kws pos) X.env = (do
      let ov ← eval o X.env
      standAt apos.atName
      let (f, first) ← holding [ov] (getMethod ov m pl)
      callWith pos f first (backTo pos (starEach [] X.env)) (backToKw pos (keywordEach kws X.env))) := by rfl) :
    PE X (.Call (.Attribute o m apos) [] kws pos) (tMe C m 0 mk sp gV E ta tNil tk) := by
  refine ⟨fun pins s σ H Q I h => ?_⟩
  refine PySem.W.methodCall_KW (pl := pl) (thn (he.run pins s σ H _ I h) fun u s1 ⟨x, H1, I1, rx, a, dx, fs, ex, ea, l, q⟩ => ?_) ht
  subst ex
  obtain rfl : u = Value.ref a := rx
  refine getmeth_ok I1 ea c hm l ?_
  refine PySem.W.callWith_KW0 (first := [.ref a]) (h₀ := X.base) I.ok.mod.kin hm.kp hall ?_ hpl
  refine thn (hkw.run pos pins s1 σ H1 _ I1 q) fun ws s3 ⟨zs, H3, I3, rz, l1, l2, q3⟩ => ⟨I3.kIn, ?_⟩
  rw [hks]
  exact run_cl (us := [.ref a]) (vs := [.ref a]) F hr hb (hx σ) I3 (.cons rfl .nil) rz rfl (l2.trans hmm.symm) q3
end
theorem RpF.noKey {K : PySem.W.Frag} {H : Hp} {n : Str} : ∀ {fs : List (Str × V)} {ds : List (Str × D)}, RpF K H fs ds → ds.lookup n = none → fs.lookup n = none
  | _, _, .nil, _ => rfl
  | _, _, .cons (k := k) p q, h => by
    by_cases e : n = k
    · subst e; simp [List.lookup] at h
    · have e' : (n == k) = false := by simpa using e
      simp only [List.lookup, e'] at h ⊢
      exact RpF.noKey q h
section
variable {G : Gx} {p : Bool} {b b' b1 b2 b3 : Nat} {te : TE} {t tk : TA} {ds : List Sd} {F : Fd} {n m : Nat} {gV : List V → List V → List V} {gD : List D → List D → List D} {E : L2.St → XK} {es fs : List D} {C : Addr} {mm : Str} {fl : List (Str × D)}
theorem evs_me {Rs : D → Prop} {Ra Rk : List D → Prop} (hs : EvS G p b b1 te ds Rs) (ha : EvA G p b1 b2 t ds Ra) (hk : EvA G p b2 b3 tk ds Rk) (hg : ∀ (H : Hp) vs zs es fs, RpA G.K H vs es → RpA G.K H zs fs → RpA G.K H (gV vs zs) (gD es fs)) (hn : ∀ es, Ra es → es.length = n) (hm : ∀ fs, Rk fs → fs.length = m)
    (h : ∀ d es fs, Rs d → Ra es → Rk fs → (∃ fl, d = .ins C fl ∧ fl.lookup mm = none) ∧ (gD (d :: es) fs).length = F.n ∧ F.dom (gD (d :: es) fs) ∧ F.cost (gD (d :: es) fs) + b' ≤ b3 ∧ ∀ D x, F.exn (gD (d :: es) fs) D x → E = WE G.W ∧ G.Acc ∧ (G.pm = true → p = true) ∧ G.X D x ds b')
    (hd : ∀ d, Rs d → ∃ fl, d = .ins C fl ∧ fl.lookup mm = none) :
    EvS G p b b' (tMe C mm n m (SpD G.K F) gV E te t tk) ds (fun r => ∃ d es fs, Rs d ∧ Ra es ∧ Rk fs ∧ F.res (gD (d :: es) fs) r) := fun gs M H σ S Q k =>
  hs gs M H σ S _ fun v d H1 rd e1 l1 rp1 => by
    obtain ⟨fl, rfl, hno⟩ := hd d rd
    have rp1' := rp1
    cases rp1 with
    | @ins a _ dx fsV _ ha0 rf =>
      refine ⟨a, dx, fsV, rfl, (msk_of ha0).2, rf.noKey hno, ?_⟩
      have S1 := S.step e1 l1
      refine ha gs M H1 σ S1 _ fun vs es' H2 r2 e2 l2 rp2 => hk gs M H2 σ (S1.step e2 l2) _ fun zs fs' H3 r3 e3 l3 rp3 => ?_
      have S3 := (S1.step e2 l2).step e3 l3
      obtain ⟨_, a2, a3, a4, a5⟩ := h _ es' fs' rd r2 r3
      refine ⟨by rw [rp2.length, hn es' r2], by rw [rp3.length, hm fs' r3], gD (.ins C fl :: es') fs', mmk p M G.M0, b', S3.mm p, l3.mono a4, hg _ _ _ _ _ (.cons (rp1'.mono (msk_mono (e2.trans e3).toKp)) (rp2.mono (msk_mono e3.toKp))) rp3, a2, a3, fun v d H4 rd4 e4 l4 rp4 _ => k v d H4 ⟨_, es', fs', rd, r2, r3, rd4⟩ (((e1.trans e2).trans e3).trans e4) l4 rp4, fun D dd fsV' x H4 rx e4 l4 hdd hx rpx => ?_⟩
      obtain ⟨h1, h2, h3, h4⟩ := a5 D x rx
      subst h1
      have S4 := S3.step e4 l4
      refine h2 gs M b' H4 σ ds D dd fsV' x S4 hx (S3.ext.free hdd) (fun z => S3.liv dd z hdd) ?_ h4
      cases p with
      | true => exact S4.mmF rpx
      | false =>
        cases e : G.pm with
        | true => exact absurd (h3 e) Bool.false_ne_true
        | false => exact rpx
/-- o.m(e, ..), nothing drawn or raised, no keywords -/
theorem ev_me {z : D} (hs : EvD G p b b1 te ds (.ins C fl)) (ha : EaD G p b1 b2 t ds es) (h : Cal F (.ins C fl :: es) z) (hn : es.length = n) (hno : fl.lookup mm = none := by rfl) : EvD G p b b2 (tMe C mm n 0 (SpD G.K F) (fun vs _ => vs) E te t tNil) ds z := by
  refine (evs_me (b' := b2) (gD := fun es _ => es) hs ha ea_nil (fun H vs zs es fs r _ => r) (fun es' e => by rw [e]; exact hn) (fun fs e => by rw [e]; rfl) (fun d es' fs e1 e2 e3 => ?_) fun d e => ⟨fl, e, hno⟩).imp fun d => ?_
  · subst e1 e2
    exact ⟨⟨fl, rfl, hno⟩, h.n, h.dom, by rw [h.cost]; omega, fun D x q => absurd q (h.exn D x)⟩
  · rintro ⟨_, _, _, rfl, rfl, rfl, r⟩
    exact h.res d r
/-- .. with keywords -/
theorem ev_meK {z : D} (hs : EvD G p b b1 te ds (.ins C fl)) (ha : EaD G p b1 b2 t ds es) (hk : EaD G p b2 b3 tk ds fs) (h : Cal F (.ins C fl :: (es ++ fs)) z) (hn : es.length = n) (hm : fs.length = m) (hno : fl.lookup mm = none := by rfl) : EvD G p b b3 (tMe C mm n m (SpD G.K F) (fun vs zs => vs ++ zs) E te t tk) ds z := by
  refine (evs_me (b' := b3) (gD := fun es fs => es ++ fs) hs ha hk (fun H vs zs es fs r q => r.append q) (fun es' e => by rw [e]; exact hn) (fun fs' e => by rw [e]; exact hm) (fun d es' fs' e1 e2 e3 => ?_) fun d e => ⟨fl, e, hno⟩).imp fun d => ?_
  · subst e1 e2 e3
    exact ⟨⟨fl, rfl, hno⟩, h.n, h.dom, by show F.cost (.ins C fl :: (es' ++ fs')) + b3 ≤ b3; rw [h.cost]; omega, fun D x q => absurd q (h.exn D x)⟩
  · rintro ⟨_, _, _, rfl, rfl, rfl, r⟩
    exact h.res d r
/-- a field -/
theorem ev_fld {d : D} (h : EvD G p b b' te ds (.ins C fl)) (c : Cls G.K C) (hno : NoAttr G.K C mm) (hl : fl.lookup mm = some d) : EvD G p b b' (tFld G.K te mm) ds d := fun gs M H σ S Q k =>
  h gs M H σ S _ fun v d' H1 e e1 l1 rp => by
    subst e
    cases rp with
    | ins ha q =>
      obtain ⟨w, h2, h3⟩ := q.look hl
      exact ⟨_, C, _, _, w, rfl, (msk_of ha).2, c, hno, h2, k _ _ _ rfl e1 l1 h3⟩
end
theorem g_fld {X : Cx} {K : PySem.W.Frag} (hK : X.K = K) {e : Expr} {te : TE} {pos : Pos} {n : Str} (he : PE X e te) (hb : attributeBase e n X.env (eval e X.env) = eval e X.env := by rfl) : PE X (.Attribute e n pos) (tFld K te n) := by subst hK; exact pe_fld he hb

/-! ### isinstance of an instance -/
structure InC (K : PySem.W.Frag) (C : Addr) : Prop where
  cl : Cls K C
  ha : PySem.W.findIn K (.ref C) "__class__" = some (some (.builtin "object.__class__"))
  hn : PySem.W.specialIn K (.builtin "object.__class__") "__get__" = some (some (.builtin "getset_descriptor.__get__"))
  htk : PySem.W.takesIn K (.builtin "object.__class__") = some true
  hm : PySem.W.mroIn K C (.type "object") = some true
theorem c_isiI {K : PySem.W.Frag} {C C2 : Addr} {fs : List (Str × D)} {r : Bool} (c : InC K C) (hk : PySem.W.kitOne K (.ref C) (.ref C2) = some r) : ClD K (rIsiE K) [.ins C fs, .ref C2] (.bl r) := fun N b H vs Q hN l rr k => by
  cases rr with
  | cons r1 r2 =>
    cases r2 with
    | cons r2 r3 =>
      cases r3
      cases r2
      cases r1 with
      | ins ha q => exact .inl ⟨_, _, _, _, r, rfl, .own C2, .base (.ins (msk_of ha).2 c.cl c.ha c.hn c.htk c.hm), hk, k _ _ _ rfl (Ext.refl H) l (.bl _)⟩
theorem c_isiIT {K : PySem.W.Frag} {C : Addr} {fs : List (Str × D)} {r : Bool} {n : String} (c : InC K C) (hk : PySem.W.kitOne K (.ref C) (.type n) = some r) : ClD K (rIsiE K) [.ins C fs, .ty n] (.bl r) := fun N b H vs Q hN l rr k => by
  cases rr with
  | cons r1 r2 =>
    cases r2 with
    | cons r2 r3 =>
      cases r3
      cases r2
      cases r1 with
      | ins ha q => exact .inl ⟨_, _, _, _, r, rfl, .ty n, .base (.ins (msk_of ha).2 c.cl c.ha c.hn c.htk c.hm), hk, k _ _ _ rfl (Ext.refl H) l (.bl _)⟩

/-! ### own ==, own len -/
/-- the kind of data of any form -/
inductive TyD (K : PySem.W.Frag) : D → Value → Prop
  | kind {d : D} {s : String} (h : d.kind = some s) : TyD K d (.type s)
  | ins {C : Addr} {fs : List (Str × D)} (c : InC K C) : TyD K (.ins C fs) (.ref C)
theorem Rp.tyD {K : PySem.W.Frag} {H : Hp} {v : V} {d : D} {t : Value} (r : Rp K H v d) (h : TyD K d t) : TyX K H v t := by
  cases h with
  | kind h => exact r.tyX h
  | ins c => cases r with | ins ha q => exact .base (.ins ha c.cl c.ha c.hn c.htk c.hm)
def rEqO (K : PySem.W.Frag) (C : Addr) (sp : Sp) : R2 := fun x y H Q => ∃ a dx fs t, x = .ref a ∧ H a = some (.ins C dx fs) ∧ TyX K H y t ∧ PySem.W.notFirst K C t = true ∧ sp [x, y] H (fun v H' => ∃ b : Bool, v = .bl b ∧ Q v H') (fun _ _ _ => False)
def rLenO (C : Addr) (sp : Sp) : List V → Hp → VK → Prop := fun xs H Q => ∃ a dx fs, xs = [.ref a] ∧ H a = some (.ins C dx fs) ∧ sp xs H (fun v H' => ∃ i : Int, v = .int i ∧ 0 ≤ i ∧ i < 2 ^ 63 ∧ Q v H') (fun _ _ _ => False)
section
variable {X : Cx} {CX : CXT} {k n : Nat} {f C : Addr} {fd : FuncData} {ps : List Str} {sp : Sp}
theorem run_sub {A : Around} {pins : List (Addr × Obj)} {σ : L2.St} {H : Hp} {s : Shared} {Q : VK} {us : List Value} {vs : List V} (F : FnOk X.prog X.w X.K X.mg X.base (L2.CX X.prog X.w) k f fd ps sp) (sb : Sub X k A) (hb : Binds X.K fd ps []) (I : Inv X pins σ H s) (r : Vals vs us) (h : sp vs H Q (fun _ _ _ => False)) :
    wpAny (model X.prog X.w) A (call (.ref f) us) (EP X pins σ Q) X.xe s := by
  have e0 : Env0 X.prog X.w X.K X.mg X.base A X.stack s H := by
    have e := I.env0
    exact ⟨by rw [sb.fr]; exact e.frames, e.mod, e.bs, e.bsz, e.funs, e.frf, e.hok, e.bare⟩
  have hl := F.len _ _ _ _ h
  refine wpAny_call (codeAny_mono (F.run A X.stack s H ⟨us, []⟩ us vs Q _ sb.room e0 (by
    have := hb s us I.kIn (by rw [List.append_nil, ← r.length, hl])
    simpa using this) r h) fun r s' hq => ?_)
  cases r with
  | error e => exact pass_never σ pins H s e s' I hq
  | ok fl =>
    cases fl with
    | ret w => exact I.after hq
    | next => exact False.elim hq
    | brk => exact False.elim hq
    | cont => exact False.elim hq
theorem op_eqO (F : FnOk X.prog X.w X.K X.mg X.base (L2.CX X.prog X.w) k f fd ps sp) (hr : Room k X.A) (hb : Binds X.K fd ps []) (hs : PySem.W.findIn X.K (.ref C) "__eq__" = some (some (.ref f))) (hf : PySem.W.isFn X.K (.ref f) = true) : OpR X (compareOp .Eq) (rEqO X.K C sp) := by
  intro pins s σ H x y v u Q I rx ry h
  obtain ⟨a, dx, fs, t, rfl, ha, ty, hn, q⟩ := h
  cases rx
  show wpAny (model X.prog X.w) X.A (richCompare .Eq (.ref a) u) (EP X pins σ Q) X.xe s
  obtain ⟨mA, J, _⟩ := ins_get I.hok ha
  obtain ⟨od, J, _⟩ := J.look
  obtain ⟨m, hF⟩ := I.fr
  obtain ⟨P, kx, hp, _⟩ := kit_of I ry ty
  refine PySem.W.cmp_K (op := .Eq) (tb := t) hr.units0 hF I.ok.mod.kin J (kx.ty _ _ I.kIn hp) hn hs hf ?_
  refine wpAny_mono (run_sub (us := [.ref a, u]) (vs := [.ref a, y]) (Q := fun v H' => ∃ b : Bool, v = .bl b ∧ Q v H') F ⟨hr, rfl⟩ hb I (.cons rfl (.cons ry .nil)) q) (fun r s' z => ?_) fun _ _ e => e
  obtain ⟨v, H', I', rv, b, rfl, q'⟩ := z
  cases rv
  exact ⟨.bl b, H', I', rfl, q'⟩
theorem call_lenO (F : FnOk X.prog X.w X.K X.mg X.base (L2.CX X.prog X.w) k f fd ps sp) (hr : Room (k + 1) X.A) (hb : Binds X.K fd ps []) (hs : PySem.W.findIn X.K (.ref C) "__len__" = some (some (.ref f))) (hf : PySem.W.isFn X.K (.ref f) = true) : CallR X (.builtin "len") (rLenO C sp) := by
  intro pins s σ H xs us Q I r h
  obtain ⟨a, dx, fs, rfl, ha, q⟩ := h
  obtain ⟨u, rfl, rx⟩ := vals1 r
  cases rx
  obtain ⟨mA, J, _⟩ := ins_get I.hok ha
  obtain ⟨od, J, _⟩ := J.look
  obtain ⟨m, hF⟩ := I.fr
  refine PySem.W.len_K hF I.ok.mod.kin J hs hf ?_
  refine wpAny_mono (run_sub (us := [.ref a]) (vs := [.ref a]) (Q := fun v H' => ∃ i : Int, v = .int i ∧ 0 ≤ i ∧ i < 2 ^ 63 ∧ Q v H') F ⟨hr.in1, rfl⟩ hb I (.cons rfl .nil) q) (fun r s' z => ?_) fun _ _ e => e
  obtain ⟨v, H', I', rv, i, rfl, h0, h1, q'⟩ := z
  obtain ⟨t, rfl⟩ := rv
  exact ⟨⟨h0, h1⟩, .int i, H', I'.tok _, ⟨_, rfl⟩, q'⟩
end
theorem g_eqO {X : Cx} {K : PySem.W.Frag} (hK : X.K = K) {k : Nat} {f C : Addr} {fd : FuncData} {ps : List Str} {sp : Sp} (F : FnOk X.prog X.w K X.mg X.base (L2.CX X.prog X.w) k f fd ps sp) (hr : Room k X.A) (hb : Binds K fd ps []) (hs : PySem.W.findIn K (.ref C) "__eq__" = some (some (.ref f))) (hf : PySem.W.isFn K (.ref f) = true) : OpR X (compareOp .Eq) (rEqO K C sp) := by
  subst hK; exact op_eqO F hr hb hs hf
theorem g_lenO {X : Cx} {K : PySem.W.Frag} (hK : X.K = K) {k : Nat} {f C : Addr} {fd : FuncData} {ps : List Str} {sp : Sp} (F : FnOk X.prog X.w K X.mg X.base (L2.CX X.prog X.w) k f fd ps sp) (hr : Room (k + 1) X.A) (hb : Binds K fd ps []) (hs : PySem.W.findIn K (.ref C) "__len__" = some (some (.ref f))) (hf : PySem.W.isFn K (.ref f) = true) : CallR X (.builtin "len") (rLenO C sp) := by
  subst hK; exact call_lenO F hr hb hs hf
section
variable {K : PySem.W.Frag} {F : Fd} {C : Addr} {fs : List (Str × D)}
/-- a == b by the class's own __eq__ -/
theorem o_eqO {y : D} {t : Value} {r : Bool} (h : Cal F [.ins C fs, y] (.bl r)) (ty : TyD K y t) (hn : PySem.W.notFirst K C t = true) : Op2D K (rEqO K C (SpD K F)) (.ins C fs) y (.bl r) := fun N b H v u Q hN l r1 r2 k => by
  have r1' := r1
  cases r1 with
  | ins ha q =>
    refine ⟨_, _, _, t, rfl, (msk_of ha).2, (r2.mono msk_all).tyD ty, hn, [.ins C fs, y], N, b, hN, by rw [h.cost, Nat.zero_add]; exact l, .cons r1' (.cons r2 .nil), h.n, h.dom, fun z d H' rd e l' rp _ => ?_, fun D dd fv x H' q => absurd q (h.exn D x)⟩
    have ed := h.res d rd
    subst ed
    have rp' := rp
    cases rp
    exact ⟨r, rfl, k _ _ H' rfl e l' rp'⟩
theorem c_lenO {i : Int} (h : Cal F [.ins C fs] (.int i)) (h0 : 0 ≤ i ∧ i < 2 ^ 63) : ClD K (rLenO C (SpD K F)) [.ins C fs] (.int i) := fun N b H vs Q hN l r k => by
  have r' := r
  cases r with
  | cons r1 r =>
    cases r
    cases r1 with
    | ins ha q =>
      refine ⟨_, _, _, rfl, (msk_of ha).2, [.ins C fs], N, b, hN, by rw [h.cost, Nat.zero_add]; exact l, r', h.n, h.dom, fun z d H' rd e l' rp _ => ?_, fun D dd fv x H' q => absurd q (h.exn D x)⟩
      have ed := h.res d rd
      subst ed
      have rp' := rp
      cases rp
      exact ⟨i, rfl, h0.1, h0.2, k _ _ H' rfl e l' rp'⟩
end

/-! ### exceptions of two and three fields -/
def sp2 (K : PySem.W.Frag) (f g : Str) : Sp := fun vs H Q _ => ∃ (a C : Addr) (y z : V), vs = [.ref a, y, z] ∧ H a = some (exo a C none) ∧ OexC K C ∧ PySem.W.findIn K (.ref C) f = some none ∧ PySem.W.findIn K (.ref C) g = some none ∧
  ∀ dx, H dx = none → dx ≠ a → Q .non (upd (upd (upd H dx (exd dx [(f, y)])) a (exo a C (some dx))) dx (exd dx [(g, z), (f, y)]))
def sp3 (K : PySem.W.Frag) (f g h : Str) : Sp := fun vs H Q _ => ∃ (a C : Addr) (y z x : V), vs = [.ref a, y, z, x] ∧ H a = some (exo a C none) ∧ OexC K C ∧ PySem.W.findIn K (.ref C) f = some none ∧ PySem.W.findIn K (.ref C) g = some none ∧ PySem.W.findIn K (.ref C) h = some none ∧
  ∀ dx, H dx = none → dx ≠ a → Q .non (upd (upd (upd (upd H dx (exd dx [(f, y)])) a (exo a C (some dx))) dx (exd dx [(g, z), (f, y)])) dx (exd dx [(h, x), (g, z), (f, y)]))
section
variable {P : Program} {w : World} {K : PySem.W.Frag} {mg : Str → Option Value} {base : Heap} {k : Nat} {f : Addr} {fd : FuncData}
theorem init2_fn {x qual fl gl : Str} {st : Stmt} (U : Fun K x qual st f fd) (S : FnScope ["self", fl, gl] ["self", fl, gl] (defScope st))
    (hbody : ∀ (cdv : Value) (A : Around) (outer : List Env) (s : Shared) (H : Hp) (E : XK), PSs (cxOf (L2.CX P w) P w K mg base ["self", fl, gl] qual (defScope st) f cdv A outer s H E) (defBody st) (tSeq (tOst K fl (tVar 0) (tVar 1)) (tOst K gl (tVar 0) (tVar 2)))) :
    FnOk P w K mg base (L2.CX P w) 1 f fd ["self", fl, gl] (sp2 K fl gl) := by
  obtain ⟨oc, od, kV, doc, pm, an, cdv, ct, osl, rfl, lk, hcd⟩ := U.ex
  refine fn_of lk hcd S (fun vs H Q E ⟨a, C, y, z, e, _⟩ => by rw [e]; rfl) fun A outer s H vs Q E hr hsp => ?_
  obtain ⟨a, C, y, z, rfl, h1, h2, h3, h4, h5⟩ := hsp
  exact ⟨_, hbody cdv A outer s H E, y, rfl, .ref a, rfl, a, C, rfl, h2, h3, .inl ⟨h1, fun dx hd ne => ⟨z, rfl, .ref a, rfl, a, C, rfl, h2, h4, .inr ⟨dx, [(fl, y)], upd_same, by rw [upd_ne ne, upd_same], by show 1 ≤ 900; decide, h5 dx hd ne⟩⟩⟩⟩
theorem init3_fn {x qual fl gl hl : Str} {st : Stmt} (U : Fun K x qual st f fd) (S : FnScope ["self", fl, gl, hl] ["self", fl, gl, hl] (defScope st))
    (hbody : ∀ (cdv : Value) (A : Around) (outer : List Env) (s : Shared) (H : Hp) (E : XK), PSs (cxOf (L2.CX P w) P w K mg base ["self", fl, gl, hl] qual (defScope st) f cdv A outer s H E) (defBody st) (tSeq (tOst K fl (tVar 0) (tVar 1)) (tSeq (tOst K gl (tVar 0) (tVar 2)) (tOst K hl (tVar 0) (tVar 3))))) :
    FnOk P w K mg base (L2.CX P w) 1 f fd ["self", fl, gl, hl] (sp3 K fl gl hl) := by
  obtain ⟨oc, od, kV, doc, pm, an, cdv, ct, osl, rfl, lk, hcd⟩ := U.ex
  refine fn_of lk hcd S (fun vs H Q E ⟨a, C, y, z, u, e, _⟩ => by rw [e]; rfl) fun A outer s H vs Q E hr hsp => ?_
  obtain ⟨a, C, y, z, u, rfl, h1, h2, h3, h4, h5, h6⟩ := hsp
  exact ⟨_, hbody cdv A outer s H E, y, rfl, .ref a, rfl, a, C, rfl, h2, h3, .inl ⟨h1, fun dx hd ne => ⟨z, rfl, .ref a, rfl, a, C, rfl, h2, h4, .inr ⟨dx, [(fl, y)], upd_same, by rw [upd_ne ne, upd_same], by show 1 ≤ 900; decide,
    ⟨u, rfl, .ref a, rfl, a, C, rfl, h2, h5, .inr ⟨dx, [(gl, z), (fl, y)], by rw [upd_ne (Ne.symm ne), upd_same], upd_same, by show 2 ≤ 900; decide, h6 dx hd ne⟩⟩⟩⟩⟩⟩
end
def tRaise2 (K : PySem.W.Frag) (C : Addr) (f g : Str) (W : WX) (ta : TA) : TS := fun _ σ H => tMkO C (sp2 K f g) [] ta σ H fun cls d H' => W cls d σ H'
def tRaise3 (K : PySem.W.Frag) (C : Addr) (f g h : Str) (W : WX) (ta : TA) : TS := fun _ σ H => tMkO C (sp3 K f g h) [] ta σ H fun cls d H' => W cls d σ H'
structure Ex2 (P : Program) (w : World) (K : PySem.W.Frag) (mg : Str → Option Value) (base : Heap) (C fI : Addr) (fd : FuncData) (f g : Str) : Prop where
  oex : OexC K C
  nof : PySem.W.findIn K (.ref C) f = some none
  nog : PySem.W.findIn K (.ref C) g = some none
  iC : PySem.W.findIn K (.ref C) "__init__" = some (some (.ref fI))
  tI : PySem.W.typeIn K (.ref fI) = some (.type "function")
  bI : Binds K fd ["self", f, g] []
  F : FnOk P w K mg base (L2.CX P w) 1 fI fd ["self", f, g] (sp2 K f g)
structure Ex3 (P : Program) (w : World) (K : PySem.W.Frag) (mg : Str → Option Value) (base : Heap) (C fI : Addr) (fd : FuncData) (f g h : Str) : Prop where
  oex : OexC K C
  nof : PySem.W.findIn K (.ref C) f = some none
  nog : PySem.W.findIn K (.ref C) g = some none
  noh : PySem.W.findIn K (.ref C) h = some none
  iC : PySem.W.findIn K (.ref C) "__init__" = some (some (.ref fI))
  tI : PySem.W.typeIn K (.ref fI) = some (.type "function")
  bI : Binds K fd ["self", f, g, h] []
  F : FnOk P w K mg base (L2.CX P w) 1 fI fd ["self", f, g, h] (sp3 K f g h)
theorem g_raise2 {X : Cx} {K : PySem.W.Frag} (hK : X.K = K) {C fI : Addr} {fd : FuncData} {f g x : Str} {e : Expr} {es : List Expr} {t : TA} {W : WX} {p pos pos2 : Pos} (hc : X.calm = true) (T : Ex2 X.prog X.w K X.mg X.base C fI fd f g) (hr : Room 2 X.A) (tk : Takes X W) (hg : Gl X x) (hm : X.mg x = some (.ref C)) (ha : PA X (e :: es) t)
    (hdb : (x == ("__debug__" : Str)) = false := by decide) (hse : starEach (e :: es) X.env = (false, eval e X.env) :: starEach es X.env := by rfl) (hpl : (backTo pos (starEach es X.env)).any (·.1) = false := by rfl) :
    PS X (.Raise (some (.Call (.Name x p) (e :: es) [] pos)) none pos2) (tRaise2 K C f g W t) := by
  subst hK
  exact ps_raise hc tk (pmk_oex (CX := L2.CX X.prog X.w) T.oex T.iC T.tI T.F hr T.bI .nil (fun pins σ H s e s' I c => pass_never σ pins H s e s' I c) hg hm ha hdb hse hpl)
theorem g_raise3 {X : Cx} {K : PySem.W.Frag} (hK : X.K = K) {C fI : Addr} {fd : FuncData} {f g h x : Str} {e : Expr} {es : List Expr} {t : TA} {W : WX} {p pos pos2 : Pos} (hc : X.calm = true) (T : Ex3 X.prog X.w K X.mg X.base C fI fd f g h) (hr : Room 2 X.A) (tk : Takes X W) (hg : Gl X x) (hm : X.mg x = some (.ref C)) (ha : PA X (e :: es) t)
    (hdb : (x == ("__debug__" : Str)) = false := by decide) (hse : starEach (e :: es) X.env = (false, eval e X.env) :: starEach es X.env := by rfl) (hpl : (backTo pos (starEach es X.env)).any (·.1) = false := by rfl) :
    PS X (.Raise (some (.Call (.Name x p) (e :: es) [] pos)) none pos2) (tRaise3 K C f g h W t) := by
  subst hK
  exact ps_raise hc tk (pmk_oex (CX := L2.CX X.prog X.w) T.oex T.iC T.tI T.F hr T.bI .nil (fun pins σ H s e s' I c => pass_never σ pins H s e s' I c) hg hm ha hdb hse hpl)
end Sh
namespace Sh
open PySem PySem.Spec PySem.Calls PyProof.Rows L2
theorem raise_heapL {H1 : Hp} {a dx : Addr} {C : Addr} {Hz : Hp} {fs : List (Str × V)} (ha : H1 a = none) (hz : ∀ c, c ≠ a → c ≠ dx → Hz c = H1 c) : upd (del Hz a) dx (.xd fs) = upd H1 dx (.xd fs) := by
  funext b
  by_cases h1 : b = dx
  · rw [h1, upd_same, upd_same]
  · rw [upd_ne h1, upd_ne h1]
    by_cases h2 : b = a
    · rw [h2, del_same, ha]
    · rw [del_ne h2, hz b h2 h1]
theorem w_raise2 {G : Gx} {b b' : Nat} {t : TA} {ds : List Sd} {E : DE} {C : Addr} {f g : Str} {x y : D} (acc : G.Acc) (ho : OexC G.K C) (hf : PySem.W.findIn G.K (.ref C) f = some none) (hg : PySem.W.findIn G.K (.ref C) g = some none) (h : EaD G G.pm b b' t ds [x, y]) (hx : G.X C [(g, y), (f, x)] ds b') : Wt G b (tRaise2 G.K C f g G.W t) ds E := fun gs M H σ S Dn w => by
  refine h gs M H σ S _ fun vs es H1 r e l rp => ?_
  subst r
  cases rp with | @cons v1 _ _ _ rx rp => cases rp with | @cons v2 _ _ _ ry rp =>
  cases rp
  refine ⟨by show 2 ≤ 1000; decide, fun a ha => ⟨a, C, _, _, rfl, upd_same, ho, hf, hg, fun dx hd ne => ⟨rfl, dx, [(g, v2), (f, v1)], ?_, upd_same, ?_, ?_⟩⟩⟩
  · rw [upd_ne (Ne.symm ne), upd_same]
  · rw [upd_ne ne] at hd; exact hd
  · have hd1 : H1 dx = none := by rw [upd_ne ne] at hd; exact hd
    show G.W (.ref C) (some dx) σ _
    rw [raise_heapL (C := C) ha fun c h1 h2 => by rw [upd_ne h2, upd_ne h1, upd_ne h2, upd_ne h1]]
    have S1 := S.step e l
    have e2 : Ext H1 (upd H1 dx (.xd [(g, v2), (f, v1)])) := Ext.new hd1
    exact acc gs M b' _ σ ds C dx _ _ (S1.step e2 (l.upd fun _ z => nomatch z)) upd_same (S1.ext.free hd1) (fun z => S1.liv dx z hd1) (.cons (ry.mono (msk_mono e2.toKp)) (.cons (rx.mono (msk_mono e2.toKp)) .nil)) hx
theorem w_raise3 {G : Gx} {b b' : Nat} {t : TA} {ds : List Sd} {E : DE} {C : Addr} {f g k : Str} {x y z : D} (acc : G.Acc) (ho : OexC G.K C) (hf : PySem.W.findIn G.K (.ref C) f = some none) (hg : PySem.W.findIn G.K (.ref C) g = some none) (hk : PySem.W.findIn G.K (.ref C) k = some none) (h : EaD G G.pm b b' t ds [x, y, z]) (hx : G.X C [(k, z), (g, y), (f, x)] ds b') : Wt G b (tRaise3 G.K C f g k G.W t) ds E := fun gs M H σ S Dn w => by
  refine h gs M H σ S _ fun vs es H1 r e l rp => ?_
  subst r
  cases rp with | @cons v1 _ _ _ rx rp => cases rp with | @cons v2 _ _ _ ry rp => cases rp with | @cons v3 _ _ _ rz rp =>
  cases rp
  refine ⟨by show 3 ≤ 1000; decide, fun a ha => ⟨a, C, _, _, _, rfl, upd_same, ho, hf, hg, hk, fun dx hd ne => ⟨rfl, dx, [(k, v3), (g, v2), (f, v1)], ?_, upd_same, ?_, ?_⟩⟩⟩
  · rw [upd_ne (Ne.symm ne), upd_ne (Ne.symm ne), upd_same]
  · rw [upd_ne ne] at hd; exact hd
  · have hd1 : H1 dx = none := by rw [upd_ne ne] at hd; exact hd
    show G.W (.ref C) (some dx) σ _
    rw [raise_heapL (C := C) ha fun c h1 h2 => by rw [upd_ne h2, upd_ne h2, upd_ne h1, upd_ne h2, upd_ne h1]]
    have S1 := S.step e l
    have e2 : Ext H1 (upd H1 dx (.xd [(k, v3), (g, v2), (f, v1)])) := Ext.new hd1
    exact acc gs M b' _ σ ds C dx _ _ (S1.step e2 (l.upd fun _ z => nomatch z)) upd_same (S1.ext.free hd1) (fun z => S1.liv dx z hd1) (.cons (rz.mono (msk_mono e2.toKp)) (.cons (ry.mono (msk_mono e2.toKp)) (.cons (rx.mono (msk_mono e2.toKp)) .nil))) hx
end Sh

/-! Sh33: fields of our own instances stored; new trees hung into trees. -/
namespace Sh
open PySem PySem.Spec PyProof.Rows L2

section
variable {G : Gx} {p : Bool} {lv b b' b1 b2 b3 : Nat} {te ta tb ti tv : TE} {tA : TA} {ds : List Sd} {R : D → Prop} {E : DE} {i j : Nat} {t t0 t1 : Tree} {F : List Addr} {d : D} {put : Tree → Tree} {ts : List Tree} {m : Int} {ks : List Key} {fks : List Str} {key : Key} {f : Str} {C : Addr}
theorem Stt.mutG {gs : List (V × D)} {M : Addr → Prop} {H : Hp} {σ : List (Option V)} {r : V} {a : Addr} {o' : HO} {Fn : List Addr} {t' : Tree} (S : G.st gs M b H σ ds) (hds : ds[i]? = some (.tre t F)) (hr : σ[i]? = some (some r)) (ha : a ∈ F) (hx : ∀ φ, o' ≠ .ext φ)
    (hFn : ∀ c ∈ Fn, c ∈ F ∨ (M c ∧ ¬ G.M0 c ∧ ∀ j, ¬ At σ ds j c)) (nd : Fn.Nodup) (tr' : Tr G.K M (upd H a o') r t' Fn) : G.st gs M b (upd H a o') σ (ds.set i (.tre t' Fn)) := by
  obtain ⟨v, e, m, ndF, tr⟩ := S.treL hds
  rw [hr] at e
  cases e
  have at_ : ∀ c ∈ F, At σ ds i c := fun c hc => ⟨_, _, hr, hds, hc⟩
  refine S.chgG hr (msk_upd (m a ha).1) (S.ext.mut (S.new a (m a ha).1 (m a ha).2)) (S.lim.upd hx) (fun c hc => ?_) (fun c o _ j hj hc ho _ => ?_) ⟨r, rfl, fun c hc => ?_, nd, tr'⟩ fun c hc => ⟨?_, fun j hj q => ?_⟩
  · by_cases e : c = a
    · rw [e, upd_same]; exact fun z => nomatch z
    · rw [upd_ne e]; exact S.liv c hc
  · rw [upd_ne fun z => hj (S.inj j i c hc (by rw [z]; exact at_ a ha))]; exact ho
  · exact (hFn c hc).elim (fun z => (m c z).1) fun z => z.1
  · exact (hFn c hc).elim (fun z => (m c z).2) fun z => z.2.1
  · exact (hFn c hc).elim (fun z => hj (S.inj j i c q (at_ c z))) fun z => z.2.2 j q
theorem head_mid {F1 F2 F0 F0' : List Addr} {a : Addr} : (F1 ++ ((a :: F0') ++ F2)).head? = (F1 ++ ((a :: F0) ++ F2)).head? := by cases F1 <;> rfl
theorem putF_new : ∀ {ks : List Str} {vs : List V} {v : V}, ks.length = vs.length → f ∉ ks → putF f v (ks.zip vs) = (ks ++ [f]).zip (vs ++ [v])
  | [], [], v, _, _ => rfl
  | k :: ks, u :: vs, v, hl, hn => by
    have hk : k ≠ f := fun z => hn (by rw [z]; exact List.mem_cons_self)
    show (if k = f then _ else _) = _
    rw [if_neg hk, show List.zipWith Prod.mk ks vs = ks.zip vs from rfl, putF_new (by simpa using hl) fun z => hn (List.mem_cons_of_mem _ z)]
    rfl
theorem putF_old : ∀ {ks : List Str} {vs : List V} {v : V} {j : Nat}, ks.length = vs.length → ks.Nodup → ks[j]? = some f → putF f v (ks.zip vs) = ks.zip (vs.set j v)
  | [], _, v, j, _, _, hj => by simp at hj
  | k :: ks, [], v, j, hl, _, _ => by cases hl
  | k :: ks, u :: vs, v, 0, hl, nd, hj => by
    have hk : k = f := by simpa using hj
    show (if k = f then _ else _) = _
    rw [if_pos hk]; rfl
  | k :: ks, u :: vs, v, j + 1, hl, nd, hj => by
    have hj' : ks[j]? = some f := by simpa using hj
    have hk : k ≠ f := fun z => (List.nodup_cons.mp nd).1 (by rw [z]; exact List.mem_of_getElem? hj')
    show (if k = f then _ else _) = _
    rw [if_neg hk, show List.zipWith Prod.mk ks vs = ks.zip vs from rfl, putF_old (by simpa using hl) (List.nodup_cons.mp nd).2 hj']
    rfl
/-- a child is replaced, or one more is put behind: the new object at a -/
theorem hang {gs : List (V × D)} {M : Addr → Prop} {H1 H2 : Hp} {σ : List (Option V)} {r : V} {a : Addr} {o' : HO} {n' : Nd} {vs' : List V} {ts' : List Tree} {F1 F0 F0' F2 : List Addr} (S : G.st gs M b H2 σ ds) (e2 : Ext H1 H2) (hds : ds[i]? = some (.tre t F)) (hr : σ[i]? = some (some r)) (hF : F = F1 ++ ((a :: F0) ++ F2)) (hx : ∀ φ, o' ≠ .ext φ) (ho' : n'.ho vs' o')
    (cl : ∀ (M' : Addr → Prop) (H'' : Hp) (t0' : Tree) (F0' : List Addr), Kp (msk M H1) (msk M' H'') → (∀ c, c ∈ F1 ∨ c ∈ F2 → ∀ o, H1 c = some o → (∀ φ, o ≠ .ext φ) → H'' c = some o) → Tr G.K M' H'' (.ref a) t0' F0' → Tr G.K M' H'' r (put t0') (F1 ++ (F0' ++ F2)))
    (q : Kp (msk M H2) (msk M (upd H2 a o')) → (∀ c, c ∈ F0 → c ≠ a) → (∀ c, (∀ j, ¬ At σ ds j c) → c ≠ a) → TrL G.K M (upd H2 a o') vs' ts' F0') (hs : ∀ c ∈ F0', c ∈ F0 ∨ (M c ∧ ¬ G.M0 c ∧ ∀ j, ¬ At σ ds j c)) (nd : F0'.Nodup) :
    G.st gs M b (upd H2 a o') σ (ds.set i (.tre (put (.node n' ts')) (F1 ++ ((a :: F0') ++ F2)))) := by
  obtain ⟨ma, na⟩ := tre_at S hds hF
  have haF : a ∈ F := by rw [hF]; simp
  have notA : ∀ c, (∀ j, ¬ At σ ds j c) → c ∉ F := fun c h z => h i ⟨_, _, hr, hds, z⟩
  have kp2 : Kp (msk M H2) (msk M (upd H2 a o')) := by rw [msk_upd ma]; exact Kp.refl _
  have kp : Kp (msk M H1) (msk M (upd H2 a o')) := (msk_mono e2.toKp).trans kp2
  obtain ⟨v, e, m, ndF, tr⟩ := S.treL hds
  have ndF' := ndF
  rw [hF] at ndF'
  have n1 := List.nodup_append.mp ndF'
  have n2 := List.nodup_append.mp n1.2.1
  refine S.mutG hds hr haF hx (fun c hc => ?_) ?_ (cl M _ _ _ kp (fun c hc o ho n => by rw [upd_ne (na c (hc.elim .inl fun z => .inr (.inl z)))]; exact e2.keep c o ho n) (.node upd_same ho' (q kp2 (fun c hc => na c (.inr (.inr hc))) fun c hc z => notA c hc (by rw [z]; exact haF))))
  · rcases List.mem_append.mp hc with hc | hc
    · exact .inl (by rw [hF]; exact List.mem_append_left _ hc)
    · rcases List.mem_append.mp hc with hc | hc
      · rcases List.mem_cons.mp hc with hc | hc
        · exact .inl (by rw [hc]; exact haF)
        · exact (hs c hc).elim (fun z => .inl (by rw [hF]; simp [z])) .inr
      · exact .inl (by rw [hF]; simp [hc])
  · have inF : ∀ c ∈ F0', c ∉ F1 ∧ c ∉ F2 ∧ c ≠ a := fun c hc => by
      rcases hs c hc with z | z
      · exact ⟨fun w => n1.2.2 c w c (by simp [z]) rfl, fun w => n2.2.2 c (by simp [z]) c w rfl, na c (.inr (.inr z))⟩
      · have := notA c z.2.2
        rw [hF] at this
        simp at this
        exact ⟨this.1, this.2.2.2, this.2.1⟩
    refine List.nodup_append.mpr ⟨n1.1, List.nodup_append.mpr ⟨List.nodup_cons.mpr ⟨fun z => (inF a z).2.2 rfl, nd⟩, n2.2.1, fun x hx y hy z => ?_⟩, fun x hx y hy z => ?_⟩
    · subst z
      rcases List.mem_cons.mp hx with hx | hx
      · exact n2.2.2 x (by rw [hx]; simp) x hy rfl
      · exact (inF x hx).2.1 hy
    · subst z
      rcases List.mem_append.mp hy with hy | hy
      · rcases List.mem_cons.mp hy with hy | hy
        · exact n1.2.2 x hx x (by rw [hy]; simp) rfl
        · exact (inF x hy).1 hx
      · exact n1.2.2 x hx x (by simp [hy]) rfl
/-- the state behind a new tree: its objects are ours, known to no slot -/
theorem Stt.hold {H' : Hp} {b' : Nat} {gs : List (V × D)} {M : Addr → Prop} {H : Hp} {σ : List (Option V)} {Fn : List Addr} (S : G.st gs M b H σ ds) (hp : ∀ a ∈ Fn, H a = none) (e : Ext H H') (l : Lim b' H') (hl : ∀ a ∈ Fn, H' a ≠ none) :
    G.st gs (fun a => M a ∨ a ∈ Fn) b' H' σ ds ∧ ∀ c ∈ Fn, ¬ G.M0 c ∧ ∀ j, ¬ At σ ds j c :=
  ⟨S.growP (P := fun a => a ∈ Fn) hp e l hl, fun c hc => ⟨fun z => S.liv c (S.m0 c z) (hp c hc), fun j z => S.liv c (S.atM z) (hp c hc)⟩⟩
theorem TrL.swap {K : PySem.W.Frag} {M : Addr → Prop} {H : Hp} {v : V} {u : Tree} {Fu : List Addr} (hu : Tr K M H v u Fu) : ∀ {vs : List V} {ts : List Tree} {F0 : List Addr} {j : Nat}, TrL K M H vs ts F0 → j < ts.length → ∃ F0', TrL K M H (vs.set j v) (ts.set j u) F0' ∧ (∀ c ∈ F0', c ∈ F0 ∨ c ∈ Fu) ∧ (F0.Nodup → Fu.Nodup → (∀ c ∈ Fu, c ∉ F0) → F0'.Nodup)
  | _, _, _, j, .nil, hj => by simp at hj
  | _, _, _, 0, .cons (F1 := G1) (F2 := G2) p q, _ => ⟨Fu ++ G2, .cons hu q, fun c hc => (List.mem_append.mp hc).elim .inr fun z => .inl (List.mem_append_right _ z), fun n1 n2 n3 => List.nodup_append.mpr ⟨n2, (List.nodup_append.mp n1).2.1, fun x hx y hy z => n3 x hx (by rw [z]; exact List.mem_append_right _ hy)⟩⟩
  | _, _, _, j + 1, .cons (F1 := G1) (F2 := G2) p q, hj => by
    obtain ⟨F0', h1, h2, h3⟩ := TrL.swap hu q (j := j) (by simpa using hj)
    refine ⟨G1 ++ F0', .cons p h1, fun c hc => ?_, fun n1 n2 n3 => ?_⟩
    · rcases List.mem_append.mp hc with hc | hc
      · exact .inl (List.mem_append_left _ hc)
      · exact (h2 c hc).elim (fun z => .inl (List.mem_append_right _ z)) .inr
    · have m := List.nodup_append.mp n1
      refine List.nodup_append.mpr ⟨m.1, h3 m.2.1 n2 fun c hc z => n3 c hc (List.mem_append_right _ z), fun x hx y hy z => ?_⟩
      subst z
      rcases h2 x hy with w | w
      · exact m.2.2 x hx x w rfl
      · exact n3 x w (List.mem_append_left _ hx)
end
section
variable {G : Gx} {p : Bool} {lv b b' b1 b2 b3 : Nat} {te ta tb ti tv : TE} {tA : TA} {ds : List Sd} {R : D → Prop} {E : DE} {i j : Nat} {t t0 t1 : Tree} {F : List Addr} {d : D} {put : Tree → Tree} {ts : List Tree} {m : Int} {ks : List Key} {fks : List Str} {key : Key} {f : Str} {C : Addr}
/-- a value to be hung: data, or a new tree -/
def EvU (G : Gx) (b b' : Nat) (te : TE) (ds : List Sd) (R : Tree → Prop) : Prop :=
  ∀ gs M H σ, G.st gs M b H σ ds → ∀ Q : VK, (∀ v u Fu H', R u → Ext H H' → Lim b' H' → (∀ a ∈ Fu, H a = none) → Fu.Nodup → Tr G.K (fun c => M c ∨ c ∈ Fu) H' v u Fu → Q v H') → te σ H Q
theorem EvS.eu (h : EvS G true b b' te ds R) : EvU G b b' te ds (fun u => ∃ d, u = .leaf d ∧ R d) := fun gs M H σ S Q k =>
  h gs M H σ S Q fun v d H' r e l rp => k v (.leaf d) [] H' ⟨d, rfl, r⟩ e l (fun a z => by cases z) List.nodup_nil (.leaf (rp.mono (msk_sub fun c hc => hc.elim id fun z => by cases z)))
theorem EvW.eu (h : EvW G lv b b' te ds R) : EvU G b b' te ds (fun u => ∃ d, u = full lv d ∧ R d) := fun gs M H σ S Q k =>
  h gs M H σ S Q fun v d F H' r e l hF nd tr => k v _ F H' ⟨d, rfl, r⟩ e l hF nd tr
theorem EvU.imp {R R' : Tree → Prop} (h : EvU G b b' te ds R) (i : ∀ u, R u → R' u) : EvU G b b' te ds R' := fun gs M H σ S Q k => h gs M H σ S Q fun v u F H' r => k v u F H' (i u r)
abbrev EuD (G : Gx) (b b' : Nat) (te : TE) (ds : List Sd) (u : Tree) : Prop := EvU G b b' te ds (fun x => x = u)
theorem eu_leaf (h : EvD G true b b' te ds d) : EuD G b b' te ds (.leaf d) := (EvS.eu h).imp fun u ⟨x, e1, e2⟩ => by rw [e1, e2]
theorem eu_full (h : EvW G lv b b' te ds (fun x => x = d)) : EuD G b b' te ds (full lv d) := (EvW.eu h).imp fun u ⟨x, e1, e2⟩ => by rw [e1, e2]
theorem EuD.eq {u u' : Tree} (h : EuD G b b' te ds u) (e : u = u') : EuD G b b' te ds u' := e ▸ h
/-- o.f = e, a new field -/
theorem ws_fldN {Ru : Tree → Prop} (hds : ds[i]? = some (.tre t F)) (hv : EvU G b b' tv ds Ru) (h : EvF G b' b1 te ds i t (.node (.ins C fks) ts) put) (c : Cls G.K C) (hno : NoAttr G.K C f) (hn : f ∉ fks) (hl : ts.length < 900) (k : ∀ u F', Ru u → F'.head? = F.head? → E.nx (ds.set i (.tre (put (.node (.ins C (fks ++ [f])) (ts ++ [u]))) F')) b1) :
    Wt G b (sFld G.K te tv f) ds E := fun gs M H σ S Dn w => by
  refine hv gs M H σ S _ fun x u Fu H0 ru e0 l0 hFu ndu tru => ?_
  obtain ⟨S0, fr⟩ := S.hold hFu e0 l0 fun a ha => tru.liv a ha
  refine h gs _ H0 σ F S0 hds _ fun v H1 r F1 F0 F2 e l hr hF tr cl => ?_
  have S1 := S0.step e l
  cases tr with
  | @node a o n vs _ F0 ha ho q =>
    obtain ⟨hlk, dx, ho'⟩ := ho
    subst ho'
    have hz : (fks.zip vs).length < 1000 := by rw [List.length_zip, hlk, Nat.min_self, q.length]; omega
    refine ⟨a, C, dx, _, rfl, ha, c, hno, hz, ?_⟩
    rw [putF_new hlk hn]
    have m0 := S0.treL hds
    have q2 := hang (put := put) (n' := .ins C (fks ++ [f])) (vs' := vs ++ [x]) (ts' := ts ++ [u]) (F0' := F0 ++ (Fu ++ [])) (o' := .ins C dx ((fks ++ [f]).zip (vs ++ [x]))) S1 (Ext.refl H1) hds hr hF (fun _ z => by cases z) ⟨by simp [hlk], dx, rfl⟩ cl (fun kp ne1 ne2 => (q.chg kp fun c hc z hz n => by rw [upd_ne (ne1 c hc)]; exact hz).app (.cons ((tru.chg (msk_mono e.toKp) fun c _ z hz n => e.keep c z hz n).chg kp fun c hc z hz n => by rw [upd_ne (ne2 c (fr c hc).2)]; exact hz) .nil))
      (fun c hc => (List.mem_append.mp hc).imp id fun z => by rw [List.append_nil] at z; exact ⟨.inr z, (fr c z).1, (fr c z).2⟩) (List.nodup_append.mpr ⟨?_, by simpa using ndu, fun x hx y hy z => ?_⟩)
    · exact w.nx _ b1 _ σ _ q2 (k u _ ru (by rw [hF]; exact head_mid))
    · obtain ⟨v', e', m', nd', tr'⟩ := m0
      rw [hF] at nd'
      exact (List.nodup_cons.mp (List.nodup_append.mp (List.nodup_append.mp nd').2.1).1).2
    · subst z
      rw [List.append_nil] at hy
      exact (fr x hy).2 i ⟨_, _, hr, hds, by show x ∈ F; rw [hF]; simp [hx]⟩
/-- o.f = e, a field that is there -/
theorem ws_fldP {Ru : Tree → Prop} (hds : ds[i]? = some (.tre t F)) (hv : EvU G b b' tv ds Ru) (h : EvF G b' b1 te ds i t (.node (.ins C fks) ts) put) (c : Cls G.K C) (hno : NoAttr G.K C f) (nd : fks.Nodup) (hj : fks[j]? = some f) (hl : ts.length < 900) (k : ∀ u F', Ru u → F'.head? = F.head? → E.nx (ds.set i (.tre (put (.node (.ins C fks) (ts.set j u))) F')) b1) :
    Wt G b (sFld G.K te tv f) ds E := fun gs M H σ S Dn w => by
  refine hv gs M H σ S _ fun x u Fu H0 ru e0 l0 hFu ndu tru => ?_
  obtain ⟨S0, fr⟩ := S.hold hFu e0 l0 fun a ha => tru.liv a ha
  refine h gs _ H0 σ F S0 hds _ fun v H1 r F1 F0 F2 e l hr hF tr cl => ?_
  have S1 := S0.step e l
  cases tr with
  | @node a o n vs _ F0 ha ho q =>
    obtain ⟨hlk, dx, ho'⟩ := ho
    subst ho'
    have hz : (fks.zip vs).length < 1000 := by rw [List.length_zip, hlk, Nat.min_self, q.length]; omega
    refine ⟨a, C, dx, _, rfl, ha, c, hno, hz, ?_⟩
    rw [putF_old hlk nd hj]
    have m0 := S0.treL hds
    have hjl : j < ts.length := by
      have := (List.getElem?_eq_some_iff.mp hj).1
      rw [← q.length, ← hlk]; exact this
    obtain ⟨F0', z1, z2, z3⟩ := TrL.swap (tru.chg (msk_mono e.toKp) fun c _ z hz n => e.keep c z hz n) q hjl
    have n0 : F0.Nodup := by
      obtain ⟨v', e', m', nd', tr'⟩ := m0
      rw [hF] at nd'
      exact (List.nodup_cons.mp (List.nodup_append.mp (List.nodup_append.mp nd').2.1).1).2
    have q2 := hang (put := put) (n' := .ins C fks) (vs' := vs.set j x) (ts' := ts.set j u) (F0' := F0') (o' := .ins C dx (fks.zip (vs.set j x))) S1 (Ext.refl H1) hds hr hF (fun _ z => by cases z) ⟨by simp [hlk], dx, rfl⟩ cl (fun kp ne1 ne2 => z1.chg kp fun c hc z hz n => by
        rw [upd_ne ((z2 c hc).elim (ne1 c) fun w => ne2 c (fr c w).2)]; exact hz)
      (fun c hc => (z2 c hc).imp id fun z => ⟨.inr z, (fr c z).1, (fr c z).2⟩) (z3 n0 ndu fun c hc z => (fr c hc).2 i ⟨_, _, hr, hds, by show c ∈ F; rw [hF]; simp [z]⟩)
    exact w.nx _ b1 _ σ _ q2 (k u _ ru (by rw [hF]; exact head_mid))
/-- ..[k] = e, a dict, a new key -/
theorem ws_putN {Ru : Tree → Prop} (hds : ds[i]? = some (.tre t F)) (hv : EvU G b b' tv ds Ru) (h : EvF G b' b1 te ds i t (.node (.dct ks) ts) put) (hi : EvD G p b1 b2 ti ds (kD key)) (hn : key ∉ ks) (hl : ts.length < 16000) (k : ∀ u F', Ru u → F'.head? = F.head? → E.nx (ds.set i (.tre (put (.node (.dct (ks ++ [key])) (ts ++ [u]))) F')) b2) :
    Wt G b (tAsg tv (gSub te ti rSetA)) ds E := fun gs M H σ S Dn w => by
  refine hv gs M H σ S _ fun x u Fu H0 ru e0 l0 hFu ndu tru => ?_
  obtain ⟨S0, fr⟩ := S.hold hFu e0 l0 fun a ha => tru.liv a ha
  refine h gs _ H0 σ F S0 hds _ fun v H1 r F1 F0 F2 e l hr hF tr cl => ?_
  refine hi gs _ H1 σ (S0.step e l) _ fun u2 d2 H2 rd e2 l2 rp => ?_
  subst rd
  have eu := kD_v rp
  subst eu
  have S2 := (S0.step e l).step e2 l2
  cases tr with
  | @node a o n vs _ F0 ha ho q =>
    obtain ⟨hlk, ho'⟩ := ho
    subst ho'
    have ha2 := e2.keep _ _ ha fun _ z => nomatch z
    have hz : (ks.zip vs).length < sizeLine := by rw [List.length_zip, hlk, Nat.min_self, q.length]; exact Nat.lt_of_lt_of_le hl (by decide)
    refine .inr ⟨a, _, rfl, DPut.k ha2 hz, ?_⟩
    rw [putK_new hlk hn]
    have m0 := S0.treL hds
    have q2 := hang (put := put) (n' := .dct (ks ++ [key])) (vs' := vs ++ [x]) (ts' := ts ++ [u]) (F0' := F0 ++ (Fu ++ [])) (o' := .dK ((ks ++ [key]).zip (vs ++ [x]))) S2 e2 hds hr hF (fun _ z => by cases z) ⟨by simp [hlk], rfl⟩ cl (fun kp ne1 ne2 => ((q.chg (msk_mono e2.toKp) fun c _ z hz n => e2.keep c z hz n).chg kp fun c hc z hz n => by rw [upd_ne (ne1 c hc)]; exact hz).app (.cons ((tru.chg (msk_mono (e.trans e2).toKp) fun c _ z hz n => (e.trans e2).keep c z hz n).chg kp fun c hc z hz n => by rw [upd_ne (ne2 c (fr c hc).2)]; exact hz) .nil))
      (fun c hc => (List.mem_append.mp hc).imp id fun z => by rw [List.append_nil] at z; exact ⟨.inr z, (fr c z).1, (fr c z).2⟩) (List.nodup_append.mpr ⟨?_, by simpa using ndu, fun x hx y hy z => ?_⟩)
    · exact w.nx _ b2 _ σ _ q2 (k u _ ru (by rw [hF]; exact head_mid))
    · obtain ⟨v', e', m', nd', tr'⟩ := m0
      rw [hF] at nd'
      exact (List.nodup_cons.mp (List.nodup_append.mp (List.nodup_append.mp nd').2.1).1).2
    · subst z
      rw [List.append_nil] at hy
      exact (fr x hy).2 i ⟨_, _, hr, hds, by show x ∈ F; rw [hF]; simp [hx]⟩
/-- .. a key that is there -/
theorem ws_putP {Ru : Tree → Prop} (hds : ds[i]? = some (.tre t F)) (hv : EvU G b b' tv ds Ru) (h : EvF G b' b1 te ds i t (.node (.dct ks) ts) put) (hi : EvD G p b1 b2 ti ds (kD key)) (nd : ks.Nodup) (hj : ks[j]? = some key) (hl : ts.length < 16000) (k : ∀ u F', Ru u → F'.head? = F.head? → E.nx (ds.set i (.tre (put (.node (.dct ks) (ts.set j u))) F')) b2) :
    Wt G b (tAsg tv (gSub te ti rSetA)) ds E := fun gs M H σ S Dn w => by
  refine hv gs M H σ S _ fun x u Fu H0 ru e0 l0 hFu ndu tru => ?_
  obtain ⟨S0, fr⟩ := S.hold hFu e0 l0 fun a ha => tru.liv a ha
  refine h gs _ H0 σ F S0 hds _ fun v H1 r F1 F0 F2 e l hr hF tr cl => ?_
  refine hi gs _ H1 σ (S0.step e l) _ fun u2 d2 H2 rd e2 l2 rp => ?_
  subst rd
  have eu := kD_v rp
  subst eu
  have S2 := (S0.step e l).step e2 l2
  cases tr with
  | @node a o n vs _ F0 ha ho q =>
    obtain ⟨hlk, ho'⟩ := ho
    subst ho'
    have ha2 := e2.keep _ _ ha fun _ z => nomatch z
    have hz : (ks.zip vs).length < sizeLine := by rw [List.length_zip, hlk, Nat.min_self, q.length]; exact Nat.lt_of_lt_of_le hl (by decide)
    refine .inr ⟨a, _, rfl, DPut.k ha2 hz, ?_⟩
    rw [putK_old hlk nd hj]
    have m0 := S0.treL hds
    have hjl : j < ts.length := by
      have := (List.getElem?_eq_some_iff.mp hj).1
      rw [← q.length, ← hlk]; exact this
    obtain ⟨F0', z1, z2, z3⟩ := TrL.swap (tru.chg (msk_mono (e.trans e2).toKp) fun c _ z hz n => (e.trans e2).keep c z hz n) (q.chg (msk_mono e2.toKp) fun c _ z hz n => e2.keep c z hz n) hjl
    have n0 : F0.Nodup := by
      obtain ⟨v', e', m', nd', tr'⟩ := m0
      rw [hF] at nd'
      exact (List.nodup_cons.mp (List.nodup_append.mp (List.nodup_append.mp nd').2.1).1).2
    have q2 := hang (put := put) (n' := .dct ks) (vs' := vs.set j x) (ts' := ts.set j u) (F0' := F0') (o' := .dK (ks.zip (vs.set j x))) S2 e2 hds hr hF (fun _ z => by cases z) ⟨by simp [hlk], rfl⟩ cl (fun kp ne1 ne2 => z1.chg kp fun c hc z hz n => by
        rw [upd_ne ((z2 c hc).elim (ne1 c) fun w => ne2 c (fr c w).2)]; exact hz)
      (fun c hc => (z2 c hc).imp id fun z => ⟨.inr z, (fr c z).1, (fr c z).2⟩) (z3 n0 ndu fun c hc z => (fr c hc).2 i ⟨_, _, hr, hds, by show c ∈ F; rw [hF]; simp [z]⟩)
    exact w.nx _ b2 _ σ _ q2 (k u _ ru (by rw [hF]; exact head_mid))
/-- one step down into a field -/
theorem ef_fld (h : EvF G b b1 te ds i t (.node (.ins C fks) ts) put) (c : Cls G.K C) (hno : NoAttr G.K C f) (nd : fks.Nodup) (hj : fks[j]? = some f) (hk : ts[j]? = some t1) : EvF G b b1 (tFld G.K te f) ds i t t1 (fun z => put (.node (.ins C fks) (ts.set j z))) := fun gs M H σ F S hds Q k =>
  h gs M H σ F S hds _ fun v H1 r F1 F0 F2 e l hr hF tr cl => by
    cases tr with
    | @node a o n vs _ F0 ha ho q =>
      obtain ⟨w, G1, G0, G2, hw, hF', trw, cl'⟩ := focus_step (Ext.refl H1) ha ho q hk cl
      obtain ⟨hl, dx, ho'⟩ := ho
      subst ho'
      have lk : ∀ {ks : List Str} {vs : List V} {j : Nat}, ks.length = vs.length → ks.Nodup → ks[j]? = some f → (ks.zip vs).lookup f = vs[j]? := fun {ks} => by
        induction ks with
        | nil => intro vs j _ _ z; simp at z
        | cons k ks ih =>
          intro vs j h1 h2 h3
          cases vs with
          | nil => cases h1
          | cons v vs =>
            cases j with
            | zero =>
              have : k = f := by simpa using h3
              subst this
              simp [List.lookup]
            | succ j =>
              have h3' : ks[j]? = some f := by simpa using h3
              have hk : (f == k) = false := by
                have : f ≠ k := fun z => (List.nodup_cons.mp h2).1 (by rw [← z]; exact List.mem_of_getElem? h3')
                simpa using this
              rw [List.zip_cons_cons]
              simp only [List.lookup, hk]
              rw [ih (by simpa using h1) (List.nodup_cons.mp h2).2 h3']
              simp
      exact ⟨a, C, dx, _, w, rfl, ha, c, hno, by rw [lk hl nd hj]; exact hw, k w H1 r G1 G0 G2 e l hr (hF.trans hF') trw cl'⟩
/-- a leaf that the focus finds may be kept -/
theorem ev_leaf (hds : ds[i]? = some (.tre t F)) (h : EvF G b b' te ds i t (.leaf d) put) : EvD G p b b' te ds d := EvS.wk fun gs M H σ S Q k =>
  h gs M H σ F S hds Q fun v H' r F1 F0 F2 e l hr hF tr cl => by
    cases tr with
    | leaf rp => exact k v d H' rfl e l rp
end
end Sh

/-! Sh34: set(a list), len and sorted of it. -/
namespace Sh
open PySem PySem.Spec PyProof.Rows L2

section
variable {P : Program} {w : World} {A : Around} {E : Value → Shared → Prop} {s : Shared}
abbrev newSet (w : World) : Obj := { cls := .type "set", dict := none, data := .set #[] 0 (.fresh 0 0 (!w.params.followText "set-order")) }
/-- what holds of the set at S once i items are in -/
structure Grows (P : Program) (w : World) (S : Addr) (n : Nat) (Pv : Nat → Value → Prop) (Good : Nat → Heap → Prop) : Prop where
  at_ : ∀ i h h', Good i h → (∀ o, h.get? S = some o → h'.get? S = some o) → Good i h'
  add : ∀ (A : Around) (E : Value → Shared → Prop) i v (s : Shared) (Q : Bool → Shared → Prop), i < n → Pv i v → Good i s.heap → (∀ b h', Heap.SameBut S s.heap h' → Good (i + 1) h' → Q b { s with heap := h', toks := s.toks + 1 }) → wpAny (model P w) A (setAdd S v) Q E s
theorem upd_loop {I : Addr} {fp wr : List Addr} {G : Array GenState → Array GenState → Prop} {n : Nat} {Pv : Nat → Value → Prop} {St : Nat → Shared → Prop} {R : Result → Shared → Prop} (W : WalksS P w A.in1 I fp wr G n Pv St) (S : Addr) (hSf : S ∉ fp)
    {Good : Nat → Heap → Prop} (g : Grows P w S n Pv Good) : ∀ (k i : Nat) (s : Shared), n - i = k → i ≤ n → St i s → Good i s.heap → (∀ s', Moved (S :: wr) G s s' → Good n s'.heap → R (.ok (.ret .none)) s') → codeAny (model P w) A (.builtin "set.update.loop" ⟨[.ref S, .ref I], []⟩) R s := by
  have hSw : S ∉ wr := fun h => hSf (W.sub _ h)
  have more : ∀ b ∈ wr, b ∈ S :: wr := fun b hb => List.mem_cons_of_mem _ hb
  have open_ : ∀ {s : Shared}, wpAny (model P w) A.in1 (Builtin.«set.update.loop» ⟨[.ref S, .ref I], []⟩) (fun fin s' => match fin with
      | .done f => R (.ok f) s'
      | .again c' => c'.quiet = true ∧ codeAny (model P w) A c' R s') (fun e s' => R (.error e) s') s → codeAny (model P w) A (.builtin "set.update.loop" ⟨[.ref S, .ref I], []⟩) R s := fun {s} h => by
    refine codeAny_builtin F.entry_set_update_loop ?_
    rw [Around.under_plainId F.plain_set_update_loop _]
    exact h
  intro k
  induction k with
  | zero =>
    intro i s hk hi st hg hR
    obtain rfl : i = n := by omega
    refine open_ ?_
    show wpAny _ A.in1 (pyNext (.ref I) >>= _) _ _ s
    refine wpAny_bind (W.done s _ _ st fun s' hm => ?_)
    show wpAny _ A.in1 (ret Value.none) _ _ s'
    exact wpAny_pure (hR s' (hm.mono more) (g.at_ _ _ _ hg fun o e => hm.heap S o hSw e))
  | succ k ih =>
    intro i s hk hi st hg hR
    have hlt : i < n := by omega
    refine open_ ?_
    show wpAny _ A.in1 (pyNext (.ref I) >>= _) _ _ s
    refine wpAny_bind (W.item i s _ _ hlt st fun v s' hv st' hm => ?_)
    show wpAny _ A.in1 (holding [v] (setAdd S v) >>= _) _ _ s'
    refine wpAny_bind (wpAny_holding (g.add _ _ i v s' _ hlt hv (g.at_ _ _ _ hg fun o e => hm.heap S o hSw e) fun b h' sb hg' => ?_))
    refine wpAny_pure ⟨plainId_quiet F.plain_set_update_loop _, ih (i + 1) _ (by omega) hlt (W.frame _ s' _ _ st' (Nat.le_succ _) fun b hb o e => ?_) hg' fun s'' hm' hg'' => ?_⟩
    · have nb : b ≠ S := fun z => hSf (z ▸ hb)
      exact (sb.2 b nb).trans e
    · refine hR s'' (Moved.trans W.gtrans ((hm.mono more).then_heap (Nat.le_succ _) fun b o hb e => ?_) hm') hg''
      have nb : b ≠ S := fun z => hb (z ▸ List.mem_cons_self)
      exact (sb.2 b nb).trans e
/-- set(xs), xs a list -/
theorem set_list {l : Addr} {items : Array Value} {Good : Nat → Heap → Prop} {Q : Value → Shared → Prop} (hh : A.handled = none) (hl : s.heap.IsList l items) (g : Grows P w s.heap.objs.size items.size (fun i v => items[i]? = some v) Good)
    (h0 : ∀ h, h.get? s.heap.objs.size = some (newSet w) → Good 0 h)
    (h : ∀ h' tk, Good items.size h' → (∀ b o, s.heap.get? b = some o → h'.get? b = some o) → Q (.ref s.heap.objs.size) { s with heap := h', toks := tk }) : wpAny (model P w) A (call (.type "set") [.ref l]) Q E s := by
  obtain ⟨c, tl, hmro⟩ := F.called_set.mro
  have hmade := F.called_set.made
  have hsub := F.called_set.sub
  refine wpAny_call (codeAny_of_tree ?_)
  show wpAny _ _ (callAny (.type "set") _) _ _ _
  refine wpAny_pure ⟨Code.quiet_builtin _ (by decide +kernel), codeAny_builtin F.entry_type_call ?_⟩
  rw [Around.under_plain (weight_type_call_type "set" [.ref l] []) rfl]
  have nt := F.called_set.notType
  have cc := F.called_set.canCreate
  have tc := F.typeCall_set_1 (.ref l)
  repeat (any_goals (first | assumption | wp_step))
  let h1 : Heap := s.heap.push (newSet w)
  refine codeAny_mono (code_set_led1 (.ref l) (E := E) (Q₁ := fun obj s₁ => obj = .ref s.heap.objs.size ∧ s₁ = { s with heap := h1 }) ⟨rfl, rfl⟩) fun r s1 hr => ?_
  cases r with
  | error e => exact hr
  | ok fl =>
    cases fl with
    | next => exact hr.elim
    | brk => exact hr.elim
    | cont => exact hr.elim
    | ret obj =>
      obtain ⟨rfl, rfl⟩ := hr
      have gS : h1.get? s.heap.objs.size = some (newSet w) := Heap.get?_push_size _ rfl
      have tS : Shared.TypeIs { s with heap := h1 } (.ref s.heap.objs.size) "set" := ⟨_, gS, rfl⟩
      have li := F.called_set.init.lookup
      have bi := F.called_set.init.bind (.ref s.heap.objs.size)
      repeat (any_goals (first | assumption | wp_step))
      refine codeAny_mono (codeAny_call_builtin (R := wants (fun r s₂ => r = .none ∧ ∃ h' tk, s₂ = { s with heap := h', toks := tk } ∧ Good items.size h' ∧ ∀ b o, s.heap.get? b = some o → h'.get? b = some o) E) F.called_set.init.plain F.entry_set_init (check_set_init_1 tS ?_)) fun r2 s2 hr2 => ?_
      · obtain ⟨ol, hol, hcl, nl, hdl⟩ := hl
        obtain ⟨ocls, odict, odata, oslots⟩ := ol
        simp only at hcl hdl
        subst hcl; subst hdl
        have hol' : h1.get? l = some { cls := .type "list", dict := odict, data := .seq items nl, slots := oslots } := Heap.get?_push_of_some _ hol
        have sl1 := F.sub_list_set
        have sl2 := F.sub_list_frozenset
        have ne1 : (Value.type "list" == Value.type "dict") = false := by decide
        have il : h1.IsList l items := ⟨_, hol', rfl, nl, rfl⟩
        have lS : l < s.heap.objs.size := Heap.lt_size hol
        have z1 : h1.objs.size = s.heap.objs.size + 1 := Heap.size_push ..
        unfold Builtin.«set.__init__» noKeywords Builtin.Frozenset.updateFrom
        generalize hPI : pyIter = PI
        wp_walk
        subst hPI
        refine wpAny_pyIter_list il ?_
        refine wpAny_bind (wpAny_runValue ?_)
        have h3 : A.in1.in1.in1.handled = none := by simp [hh]
        have nI : l ≠ h1.objs.size := by rw [z1]; exact Nat.ne_of_lt (Nat.lt_succ_of_lt lS)
        have nS : s.heap.objs.size ∉ [h1.objs.size, l] := by
          rw [z1]; simp only [List.mem_cons, List.not_mem_nil, or_false, not_or]; exact ⟨Nat.ne_of_lt (Nat.lt_succ_self _), Nat.ne_of_gt lS⟩
        refine upd_loop ((Walks.list h3 _ l nI items).toS) s.heap.objs.size nS g (items.size - 0) 0 _ (by omega) (Nat.zero_le _) ⟨⟨_, Heap.get?_push_size _ rfl, rfl, rfl⟩, (il.push _)⟩ (h0 _ (Heap.get?_push_of_some _ gS)) fun s' hm hg => ?_
        obtain ⟨h', g2, d', tk', os'⟩ := s'
        have eg : g2 = s.gens := hm.gens
        have ed : d' = s.drawn := hm.drawn
        have eo : os' = s.os := hm.os
        subst eg ed eo
        show wpAny _ _ _ _ _ _
        refine wpAny_pure ?_
        show wpAny _ _ (ret Value.none) _ _ _
        refine wpAny_pure ⟨rfl, h', tk', rfl, hg, fun b o e => ?_⟩
        have b0 : b < s.heap.objs.size := Heap.lt_size e
        exact hm.heap b o (by rw [z1]; simp only [List.mem_cons, List.not_mem_nil, or_false, not_or]; exact ⟨Nat.ne_of_lt b0, Nat.ne_of_lt (Nat.lt_succ_of_lt b0)⟩) (Heap.get?_push_of_some _ (Heap.get?_push_of_some _ e))
      · cases r2 with
        | error e => exact hr2
        | ok fl2 =>
          cases fl2 with
          | next => exact hr2.elim
          | brk => exact hr2.elim
          | cont => exact hr2.elim
          | ret r =>
            obtain ⟨rfl, h', tk, rfl, hg, hk⟩ := hr2
            repeat (any_goals (first | assumption | wp_step))
            exact h _ _ hg hk
/-- ints -/
def GoodI (w : World) (S : Addr) (ns : List Int) (i : Nat) (h : Heap) : Prop := ∃ c, c ≤ i ∧ SetR w h S (fun j => decide (j ∈ ns.take i)) c
theorem grows_ints {S : Addr} {items : Array Value} {ns : List Int} (hi : IntsAre items.toList ns) (hb : ns.length + 1 < scanBound) : Grows P w S items.size (fun i v => items[i]? = some v) (GoodI w S ns) where
  at_ := fun i h h' ⟨c, hc, R⟩ k => ⟨c, hc, R.at k⟩
  add := fun A E i v s Q hlt hv ⟨c, hc, R⟩ k => by
    have hn : items.size = ns.length := by rw [← Array.length_toList]; exact IntsAre.length hi
    have hlt' : i < ns.length := by omega
    obtain ⟨t, e⟩ := PyProof.Rows.IntsAre.int_at hi i v (by rw [Array.getElem?_toList]; exact hv)
    rw [List.getD_eq_getElem?_getD, List.getElem?_eq_getElem hlt'] at e
    subst e
    unfold setAdd
    refine wpAny_holding (wpAny_bind ((intKind P w).pyHash (k := ns[i]) (intKind_is _ _ _ _) ?_))
    refine setR_add_hashed (s := { s with toks := s.toks + 1 }) R (by omega) fun h' sb R' => k _ h' sb ⟨_, ?_, R'.congr fun j => ?_⟩
    · split <;> omega
    · have e : ns.take (i + 1) = ns.take i ++ [ns[i]] := List.take_succ_eq_append_getElem hlt'
      have e2 : j ∈ ns.take (i + 1) ↔ (j ∈ ns.take i ∨ j = ns[i]) := by rw [e, List.mem_append, List.mem_singleton]
      show decide (j ∈ ns.take (i + 1)) = (decide (j ∈ ns.take i) || decide (j = ns[i]))
      rw [← Bool.decide_or]
      exact decide_eq_decide.mpr e2
end
/-- set(xs) of ints; of texts -/
def rSetOfI (K : PySem.W.Frag) (w : World) : List V → Hp → VK → Prop := fun xs H Q => ∃ (p : Addr) (ns : List Int), xs = [.ref p] ∧ SqL K H p (ns.map V.int) ∧ ns.length < 4000 ∧ ∀ a n, n ≤ ns.length → H a = none → Q (.ref a) (upd H a (SetO w a (fun j => decide (j ∈ ns)) n))
theorem cr_setOfI {X : Cx} (hc : X.calm = true) : CallR X (.type "set") (rSetOfI X.K X.w) := by
  intro pins s σ H xs us Q I r h
  obtain ⟨p, ns, rfl, hs, hb, q⟩ := h
  obtain ⟨u, rfl, rx⟩ := vals1 r
  cases rx
  obtain ⟨its, rv, pl, hz⟩ := I.list hs
  have hi : IntsAre its.toArray.toList ns := by simpa using ints_of_vals rv
  have hn : its.toArray.size = ns.length := by rw [← Array.length_toList]; exact IntsAre.length hi
  refine set_list (I.ok.hd hc) pl.isList (grows_ints (S := s.heap.objs.size) hi (by unfold scanBound; omega)) (fun h e => ⟨0, Nat.le_refl 0, setR_new_at e⟩) fun h' tk ⟨c, hc', R⟩ k => ?_
  rw [hn, List.take_length] at R
  have hf : H s.heap.objs.size = none := I.hok.fresh (Nat.le_refl _)
  exact ⟨.ref _, upd H s.heap.objs.size (SetO X.w s.heap.objs.size (fun j => decide (j ∈ ns)) c), I.laid (t' := tk) k (Nat.le_refl _) (setO_new R), rfl, q _ c (by omega) hf⟩
theorem g_setOfI {X : Cx} {K : PySem.W.Frag} {w : World} (hK : X.K = K) (hw : X.w = w) (hc : X.calm = true) : CallR X (.type "set") (rSetOfI K w) := by subst hK hw; exact cr_setOfI hc
theorem g_sortedSet {X : Cx} {w : World} (hw : X.w = w) (hc : X.calm = true) : CallR X (.builtin "sorted") (rSortedSetF w) := by subst hw; exact cr_sortedSetF hc
/-- sorted(set(xs)), by data -/
theorem evs_sortSet {G : Gx} {p : Bool} {w : World} {b b' : Nat} {t : TA} {ds : List Sd} {ns : List Int} (h : EaD G true b b' t ds [.lst (ns.map .int)]) (hl : ns.length < 64) :
    EvO G b b' (tCB (rSortedSetF w) (tCons (tCB (rSetOfI G.K w) t) tNil)) ds (fun xs => ∃ ys : List Int, xs = ys.map .int ∧ ys.Pairwise (· < ·) ∧ ∀ k, k ∈ ys ↔ k ∈ ns) := fun gs M H σ S Q k =>
  h gs M H σ S _ fun vs es H1 r e l rp => by
    subst r
    cases rp with | cons r1 rp =>
    cases rp
    cases r1 with
    | lst ha r =>
      have ev := r.ints
      subst ev
      refine ⟨_, ns, rfl, SqL.of (msk_of ha).2, by omega, fun a n hn hf => ?_⟩
      refine ⟨a, _, n, rfl, upd_same, by omega, fun ys q o hs hm hq => ?_⟩
      have hqa : q ≠ a := fun z => by rw [z, upd_same] at hq; cases hq
      have hq1 : H1 q = none := by rw [upd_ne hqa] at hq; exact hq
      have e3 : Ext H1 (upd (upd (upd H1 a (SetO w a (fun j => decide (j ∈ ns)) n)) a (EX o a)) q (.lst (ys.map V.int))) := by
        have e4 : Ext H1 (upd (upd H1 a (SetO w a (fun j => decide (j ∈ ns)) n)) a (EX o a)) := (Ext.new hf).mut hf
        exact e4.trans (Ext.new (by rw [upd_ne hqa, upd_ne hqa]; exact hq1))
      refine k q _ (ys.map .int) _ ⟨ys, rfl, hs, fun j => by rw [hm]; simp⟩ (e.trans e3) ?_ (e.free hq1) upd_same (RpA.of_ints)
      obtain ⟨m, pz, hb⟩ := l
      refine ⟨m, fun c φ hc => ?_, hb⟩
      by_cases h1 : c = q
      · rw [h1, upd_same] at hc; cases hc
      · rw [upd_ne h1] at hc
        by_cases h2 : c = a
        · rw [h2, upd_same] at hc; cases hc
        · rw [upd_ne h2, upd_ne h2] at hc
          exact pz c φ hc
end Sh
namespace Sh
open PySem PySem.Spec PyProof.Rows L2
theorem g_sfld {X : Cx} {K : PySem.W.Frag} (hK : X.K = K) {o value : Expr} {f : Str} {pos pos' : Pos} {ta tv : TE} (ha : PE X o ta) (hv : PE X value tv) (hs : swapsWith value (some (.Attribute o f pos')) pos.line X.env = pure false := by rfl) : PS X (.Assign [.Attribute o f pos'] value pos) (sFld K ta tv f) := by subst hK; exact ps_fld ha hv hs
end Sh

/-! Sh35: dicts walked: the dict is locked meanwhile. -/
namespace Sh
open PySem PySem.Spec PyProof.Rows L2

section
variable {K : PySem.W.Frag}
/-- one object's view changes: what was known of it by others -/
structure Swp (H H' : Hp) (d : Addr) : Prop where
  ne : ∀ a, a ≠ d → H' a = H a
  lst : ∀ vs, H d ≠ some (.lst vs)
  rd : ∀ kvs, Rd H d (.dK kvs) → Rd H' d (.dK kvs)
  dT : ∀ kvs, H d ≠ some (.dT kvs)
  tup : ∀ vs, H d ≠ some (.tup vs)
  ftp : ∀ o vs, H d ≠ some (.frz o (.tup vs))
  fls : ∀ o vs, H d ≠ some (.frz o (.lst vs))
  ins : ∀ C dx fs, H d ≠ some (.ins C dx fs)
  fex : ∀ o φ, H d ≠ some (.frz o (.ext φ))
  xd : ∀ fs, H d ≠ some (.xd fs)
  ext : ∀ φ, H d ≠ some (.ext φ)
theorem swp_lock {H : Hp} {d : Addr} {od : Obj} {kvs : List (Key × V)} (h : H d = some (.dK kvs)) : Swp H (upd H d (.frz od (.dK kvs))) d := by
  refine ⟨fun a ha => upd_ne ha, ?_, fun ks r => ?_, ?_, ?_, ?_, ?_, ?_, ?_, ?_, ?_⟩
  case refine_2 =>
    rcases r with r | ⟨o, r⟩
    · rw [h] at r; cases r; exact .inr ⟨od, upd_same⟩
    · rw [h] at r; cases r
  all_goals (intros; rw [h]; exact fun z => by cases z)
theorem swp_unlock {H : Hp} {d : Addr} {od : Obj} {kvs : List (Key × V)} (h : H d = some (.frz od (.dK kvs))) : Swp H (upd H d (.dK kvs)) d := by
  refine ⟨fun a ha => upd_ne ha, ?_, fun ks r => ?_, ?_, ?_, ?_, ?_, ?_, ?_, ?_, ?_⟩
  case refine_2 =>
    rcases r with r | ⟨o, r⟩
    · rw [h] at r; cases r
    · rw [h] at r; cases r; exact .inl upd_same
  all_goals (intros; rw [h]; exact fun z => by cases z)
variable {H H' : Hp} {d : Addr}
theorem Swp.keep {a : Addr} {o : HO} (w : Swp H H' d) (h : H a = some o) (n : H d ≠ some o) : H' a = some o := by
  rw [w.ne a fun z => n (by rw [← z]; exact h)]; exact h
theorem Swp.rdK {a : Addr} {kvs : List (Key × V)} (w : Swp H H' d) (h : Rd H a (.dK kvs)) : Rd H' a (.dK kvs) := by
  by_cases e : a = d
  · rw [e] at h ⊢; exact w.rd kvs h
  · rcases h with h | ⟨o, h⟩
    · exact .inl (by rw [w.ne a e]; exact h)
    · exact .inr ⟨o, by rw [w.ne a e]; exact h⟩
theorem Swp.seqT {a : Addr} {vs : List V} (w : Swp H H' d) (h : SqT K H a vs) : SqT K H' a vs := by
  rcases h with (h | ⟨o, h⟩) | h
  · exact .inl (.inl (w.keep h (w.tup _)))
  · exact .inl (.inr ⟨o, w.keep h (w.ftp _ _)⟩)
  · exact .inr h
theorem Swp.scr {a : Addr} {vs : List V} (w : Swp H H' d) (h : ScrL K H a vs) : ScrL K H' a vs := by
  rcases h with ⟨o, h⟩ | h
  · exact .inl ⟨o, w.keep h (w.fls _ _)⟩
  · exact .inr h
mutual
theorem Rp.swp (w : Swp H H' d) : ∀ {v : V} {x : D}, Rp K H v x → Rp K H' v x
  | _, _, .non => .non
  | _, _, .bl b => .bl b
  | _, _, .int i => .int i
  | _, _, .str i => .str i
  | _, _, .lst h q => .lst (w.keep h (w.lst _)) (RpA.swp w q)
  | _, _, .scr h => .scr (w.scr h)
  | _, _, .tup h q => .tup (w.seqT h) (RpA.swp w q)
  | _, _, .dct h q => .dct (w.rdK h) (RpK.swp w q)
  | _, _, .dtt h q => .dtt (w.keep h (w.dT _)) (RpT.swp w q)
  | _, _, .ins h q => .ins (w.keep h (w.ins _ _ _)) (RpF.swp w q)
  | _, _, .exc h z y x q => .exc ⟨w.keep h.1 (by obtain ⟨_, φ, e⟩ := h; subst e; exact w.fex _ _), h.2⟩ z y (w.keep x (w.xd _)) (RpF.swp w q)
  | _, _, .purse h => .purse (w.keep h (w.ext _))
  | _, _, .ref a => .ref a
  | _, _, .ty a => .ty a
theorem RpA.swp (w : Swp H H' d) : ∀ {v : List V} {x : List D}, RpA K H v x → RpA K H' v x
  | _, _, .nil => .nil
  | _, _, .cons h q => .cons (Rp.swp w h) (RpA.swp w q)
theorem RpK.swp (w : Swp H H' d) : ∀ {v : List (Key × V)} {x : List (Key × D)}, RpK K H v x → RpK K H' v x
  | _, _, .nil => .nil
  | _, _, .cons h q => .cons (Rp.swp w h) (RpK.swp w q)
theorem RpT.swp (w : Swp H H' d) : ∀ {v : List (List Key × V)} {x : List (List Key × D)}, RpT K H v x → RpT K H' v x
  | _, _, .nil => .nil
  | _, _, .cons h q => .cons (Rp.swp w h) (RpT.swp w q)
theorem RpF.swp (w : Swp H H' d) : ∀ {v : List (Str × V)} {x : List (Str × D)}, RpF K H v x → RpF K H' v x
  | _, _, .nil => .nil
  | _, _, .cons h q => .cons (Rp.swp w h) (RpF.swp w q)
end
theorem Swp.msk {M : Addr → Prop} (w : Swp H H' d) (hd : ¬ M d) : Swp (msk M H) (msk M H') d := by
  have e : Sh.msk M H d = H d := msk_no hd
  have e' : Sh.msk M H' d = H' d := msk_no hd
  refine ⟨fun a ha => ?_, ?_, fun ks r => ?_, ?_, ?_, ?_, ?_, ?_, ?_, ?_, ?_⟩
  · unfold Sh.msk
    split
    · rfl
    · exact w.ne a ha
  · rw [e]; exact w.lst
  · have := w.rd ks (by rcases r with r | ⟨o, r⟩
                        · exact .inl (by rw [← e]; exact r)
                        · exact .inr ⟨o, by rw [← e]; exact r⟩)
    rcases this with r | ⟨o, r⟩
    · exact .inl (by rw [e']; exact r)
    · exact .inr ⟨o, by rw [e']; exact r⟩
  · rw [e]; exact w.dT
  · rw [e]; exact w.tup
  · rw [e]; exact w.ftp
  · rw [e]; exact w.fls
  · rw [e]; exact w.ins
  · rw [e]; exact w.fex
  · rw [e]; exact w.xd
  · rw [e]; exact w.ext
theorem Rp.swpM {M : Addr → Prop} (w : Swp H H' d) (hd : ¬ M d) {v : V} {x : D} (h : Rp K (msk M H) v x) : Rp K (msk M H') v x := h.swp (w.msk hd)
theorem RpA.swpM {M : Addr → Prop} (w : Swp H H' d) (hd : ¬ M d) {v : List V} {x : List D} (h : RpA K (msk M H) v x) : RpA K (msk M H') v x := h.swp (w.msk hd)
mutual
theorem Tr.swp {M : Addr → Prop} (w : Swp H H' d) (hd : ¬ M d) : ∀ {v : V} {t : Tree} {F : List Addr}, Tr K M H v t F → (∀ a ∈ F, M a) → Tr K M H' v t F
  | _, _, _, .leaf r, _ => .leaf (r.swpM w hd)
  | _, _, _, .node ha h q, hF => .node (by rw [w.ne _ fun z => hd (z ▸ hF _ List.mem_cons_self)]; exact ha) h (TrL.swp w hd q fun a m => hF a (List.mem_cons_of_mem _ m))
theorem TrL.swp {M : Addr → Prop} (w : Swp H H' d) (hd : ¬ M d) : ∀ {vs : List V} {ts : List Tree} {F : List Addr}, TrL K M H vs ts F → (∀ a ∈ F, M a) → TrL K M H' vs ts F
  | _, _, _, .nil, _ => .nil
  | _, _, _, .cons p q, hF => .cons (Tr.swp w hd p fun a m => hF a (List.mem_append_left _ m)) (TrL.swp w hd q fun a m => hF a (List.mem_append_right _ m))
end
end

/-! ### the state while d is locked -/
open Classical in
noncomputable def lkH0 (M M0 : Addr → Prop) (H : Hp) : Hp := fun a => if M a ∧ ¬ M0 a then none else H a
theorem lkH0_of {M M0 : Addr → Prop} {H : Hp} {a : Addr} {o : HO} (h : lkH0 M M0 H a = some o) : ¬ (M a ∧ ¬ M0 a) ∧ H a = some o := by
  unfold lkH0 at h
  split at h
  · cases h
  · exact ⟨by assumption, h⟩
theorem lkH0_no {M M0 : Addr → Prop} {H : Hp} {a : Addr} (h : ¬ (M a ∧ ¬ M0 a)) : lkH0 M M0 H a = H a := by
  unfold lkH0
  rw [if_neg h]
section
variable {K : PySem.W.Frag} {H0 H H' : Hp} {M0 M M' : Addr → Prop} {b b' : Nat} {σ σ' : List (Option V)} {ds ds' : List Sd} {gs : List (V × D)} {d : Addr} {od : Obj} {kvs : List (Key × V)} {kds : List (Key × D)} {i : Nat}
theorem SlOk.swp {s : Option V} {e : Sd} (w : Swp H H' d) (hd : ¬ M d) (h : SlOk K M H s e) : SlOk K M H' s e := by
  cases e with
  | un => trivial
  | dat x => obtain ⟨v, h1, h2⟩ := h; exact ⟨v, h1, h2.swpM w hd⟩
  | own xs => obtain ⟨a, vs, h1, h2, h3, h4⟩ := h; exact ⟨a, vs, h1, h2, by rw [w.ne a fun z => hd (z ▸ h2)]; exact h3, h4.swpM w hd⟩
  | par a xs => obtain ⟨vs, h1, h2, h3, h4⟩ := h; exact ⟨vs, h1, h2, by rw [w.ne a fun z => hd (z ▸ h2)]; exact h3, h4.swpM w hd⟩
  | tre t F => obtain ⟨v, h1, h2, h3, h4⟩ := h; exact ⟨v, h1, h2, h3, h4.swp w hd h2⟩
  | fix v x => exact ⟨h.1, h.2.swpM w hd⟩
/-- slot i is told exactly -/
theorem Stt.fix (S : Stt K H0 M0 gs M b H σ ds) {v : V} {x : D} (hi : ds[i]? = some (.dat x)) (hv : σ[i]? = some (some v)) (r : Rp K (msk M H) v x) : Stt K H0 M0 gs M b H σ (ds.set i (.fix v x)) := by
  have q := S.setW (i := i) (s := some v) (e := .fix v x) ⟨rfl, r⟩ fun _ z => z
  have e : σ.set i (some v) = σ := by
    obtain ⟨hl, e⟩ := List.getElem?_eq_some_iff.mp hv
    rw [← e]; exact List.set_getElem_self hl
  rw [e] at q
  exact q
theorem Stt.unfix (S : Stt K H0 M0 gs M b H σ ds) {v : V} {x : D} (hi : ds[i]? = some (.fix v x)) : Stt K H0 M0 gs M b H σ (ds.set i (.dat x)) := by
  have hl : i < σ.length := by rw [S.len]; exact (List.getElem?_eq_some_iff.mp hi).1
  obtain ⟨e, r⟩ := S.sl i _ _ (List.getElem?_eq_getElem hl) hi
  have q := S.setW (i := i) (s := some v) (e := .dat x) ⟨v, rfl, r⟩ fun _ z => z
  have e2 : σ.set i (some v) = σ := by rw [← e]; exact List.set_getElem_self hl
  rw [e2] at q
  exact q
/-- entering: the objects that are known and not ours are held -/
theorem Stt.lockS (S : Stt K H0 M0 gs M b H σ ds) (w : Swp H H' d) (hd : ¬ M d) (hl : H' d ≠ none) (hx : ∀ φ, H' d ≠ some (.ext φ)) : Stt K (lkH0 M M0 H') M0 gs M b H' σ ds := by
  refine ⟨⟨Kp.sub fun a o h => (lkH0_of h).2, fun a h => ?_⟩, S.m0, fun a h n => ?_, fun a h => ?_, ?_, S.len, fun j s e h1 h2 => (S.sl j s e h1 h2).swp w hd, S.inj, S.ownNew, fun q hq => (S.gh q hq).swpM w hd⟩
  · unfold lkH0 at h
    split at h
    · exact absurd rfl h
    · exact h
  · unfold lkH0; rw [if_pos ⟨h, n⟩]
  · rw [w.ne a fun z => hd (z ▸ h)]; exact S.liv a h
  · obtain ⟨n, p, q⟩ := S.lim
    refine ⟨n, fun a φ e => ?_, q⟩
    by_cases z : a = d
    · rw [z] at e; exact absurd e (hx φ)
    · rw [w.ne a z] at e; exact p a φ e
/-- leaving: H2 at the end of what was locked -/
theorem Stt.unlockS {gs' : List (V × D)} (S : Stt K H0 M0 gs M b H σ ds) (hd : ¬ M d) (hh : H d = some (.dK kvs)) (S' : Stt K (lkH0 M M0 (upd H d (.frz od (.dK kvs)))) M0 gs' M' b' H' σ' ds') : H' d = some (.frz od (.dK kvs)) ∧ ¬ M' d ∧ Stt K H0 M0 gs' M' b' (upd H' d (.dK kvs)) σ' ds' := by
  have h0 : lkH0 M M0 (upd H d (.frz od (.dK kvs))) d = some (.frz od (.dK kvs)) := by rw [lkH0_no fun z => hd z.1]; exact upd_same
  have e1 : H' d = some (.frz od (.dK kvs)) := S'.ext.keep _ _ h0 fun _ z => nomatch z
  have nM' : ¬ M' d := fun z => by
    have nM0 : ¬ M0 d := fun y => hd (S.m0 d y)
    have := S'.new d z nM0
    rw [h0] at this; cases this
  have w : Swp H' (upd H' d (.dK kvs)) d := swp_unlock e1
  refine ⟨e1, nM', ⟨⟨fun a o ho n => ?_, fun a c ha => ?_⟩, fun a ha => ?_⟩, S'.m0, fun a h n => ?_, fun a h => ?_, Lim.upd S'.lim (fun _ z => by cases z), S'.len, fun j s e h1 h2 => (S'.sl j s e h1 h2).swp w nM', S'.inj, S'.ownNew, fun q hq => (S'.gh q hq).swpM w nM'⟩
  · have k1 := S.ext.keep a o ho n
    by_cases z : a = d
    · subst z
      rw [hh] at k1
      cases k1
      exact upd_same
    · rw [upd_ne z]
      refine S'.ext.keep a o ?_ n
      rw [lkH0_no fun y => ?_, upd_ne z]
      · exact k1
      · have := S.new a y.1 y.2
        rw [ho] at this; cases this
  · obtain ⟨m, k1⟩ := S.ext.pz a c ha
    have z : a ≠ d := fun z => by rw [z, hh] at k1; unfold PurseO at k1; cases k1
    obtain ⟨m2, k2⟩ := S'.ext.pz a m (by
      rw [lkH0_no fun y => ?_, upd_ne z]
      · exact k1
      · have := S.new a y.1 y.2
        rw [ha] at this; cases this)
    exact ⟨m2, by rw [upd_ne z]; exact k2⟩
  · by_cases z : a = d
    · rw [z, upd_same]; exact fun y => nomatch y
    · rw [upd_ne z]
      refine S'.ext.dom a ?_
      rw [lkH0_no fun y => ?_, upd_ne z]
      · exact S.ext.dom a ha
      · exact ha (S.new a y.1 y.2)
  · by_cases z : a = d
    · rw [z] at h; exact absurd h nM'
    · have := S'.new a h n
      by_cases y : M a ∧ ¬ M0 a
      · exact S.new a y.1 y.2
      · rw [lkH0_no y, upd_ne z] at this
        exact S.ext.free this
  · rw [w.ne a fun z => nM' (z ▸ h)]; exact S'.liv a h
/-- what comes of a locked expression -/
theorem lock_ext {Hz : Hp} (hh : H d = some (.dK kvs)) (e : Ext (upd H d (.frz od (.dK kvs))) Hz) : Hz d = some (.frz od (.dK kvs)) ∧ Ext H (upd Hz d (.dK kvs)) := by
  have e1 : Hz d = some (.frz od (.dK kvs)) := e.keep _ _ upd_same fun _ z => nomatch z
  refine ⟨e1, ⟨fun a o ho n => ?_, fun a c ha => ?_⟩, fun a ha => ?_⟩
  · by_cases z : a = d
    · subst z; rw [hh] at ho; cases ho; exact upd_same
    · rw [upd_ne z]; exact e.keep a o (by rw [upd_ne z]; exact ho) n
  · have z : a ≠ d := fun z => by rw [z, hh] at ha; unfold PurseO at ha; cases ha
    obtain ⟨m, k⟩ := e.pz a c (by rw [upd_ne z]; exact ha)
    exact ⟨m, by rw [upd_ne z]; exact k⟩
  · by_cases z : a = d
    · rw [z, upd_same]; exact fun y => nomatch y
    · rw [upd_ne z]; exact e.dom a (by rw [upd_ne z]; exact ha)
end
end Sh

namespace Sh
open PySem PySem.Spec PyProof.Rows L2
/-! ### what is walked: a dict whose place is known -/
def Gx.at0 (G : Gx) (H0 : Hp) : Gx := ⟨G.K, H0, G.M0, G.W, G.X, G.pm⟩
def kAt (kds : List (Key × D)) (j : Nat) : D := (kds[j]?.map fun p => kD p.1).getD .non
def vAt (kds : List (Key × D)) (j : Nat) : D := (kds[j]?.map fun p => p.2).getD .non
structure Tied (G : Gx) (td : TE) (ds : List Sd) (kds : List (Key × D)) (d : Addr) (kvs : List (Key × V)) : Prop where
  at_ : ∃ od, G.H0 d = some (.frz od (.dK kvs))
  rd : ∀ gs M b H σ, G.st gs M b H σ ds → Rp G.K (msk M H) (.ref d) (.dct kds) ∧ ∀ Q : VK, Q (.ref d) H → td σ H Q
theorem RpK.at {K : PySem.W.Frag} {H : Hp} : ∀ {kvs : List (Key × V)} {kds : List (Key × D)} {j : Nat} {k : Key} {v : V}, RpK K H kvs kds → kvs[j]? = some (k, v) → ∃ x, kds[j]? = some (k, x) ∧ Rp K H v x
  | _, _, j, _, _, .nil, h => by simp at h
  | _, _, 0, _, _, .cons p q, h => by simp at h; obtain ⟨rfl, rfl⟩ := h; exact ⟨_, rfl, p⟩
  | _, _, j + 1, k, v, .cons p q, h => by
    obtain ⟨x, e, r⟩ := RpK.at (j := j) q (by simpa using h)
    exact ⟨x, by simpa using e, r⟩
section
variable {G : Gx} {td : TE} {ds : List Sd} {kds : List (Key × D)} {d : Addr} {kvs : List (Key × V)} {b : Nat}
theorem frz_rp {K : PySem.W.Frag} {H : Hp} {M : Addr → Prop} {od : Obj} (h : H d = some (.frz od (.dK kvs))) (r : Rp K (msk M H) (.ref d) (.dct kds)) : ¬ M d ∧ RpK K (msk M H) kvs kds := by
  cases r with
  | dct ha q =>
    obtain ⟨h1, h2⟩ := rd_of ha
    rcases h2 with h2 | ⟨o, h2⟩
    · rw [h] at h2; cases h2
    · rw [h] at h2; cases h2; exact ⟨h1, q⟩
theorem rpk_kD {K : PySem.W.Frag} {H : Hp} (k : Key) : Rp K H (kV k) (kD k) := by
  cases k with
  | inl i => exact .int i
  | inr s => exact .str s
theorem ei_items (t : Tied G td ds kds d kvs) : EvI G b b (iItems td) ds kds.length (fun j => .tup [kAt kds j, vAt kds j]) := fun gs M H σ S R k => by
  obtain ⟨r, q⟩ := t.rd gs M b H σ S
  obtain ⟨od, h0⟩ := t.at_
  have hf : ∀ {H1}, Ext G.H0 H1 → H1 d = some (.frz od (.dK kvs)) := fun e => e.keep _ _ h0 fun _ z => nomatch z
  have hl : kvs.length = kds.length := (frz_rp (hf S.ext) r).2.length
  refine q _ ⟨d, od, kvs, rfl, hf S.ext, k _ [(.ref d, .dct kds)] H (Ext.refl H) S.lim (fun q z => by rw [List.mem_singleton.mp z]; exact r) ⟨fun j M1 H1 g hj => ⟨hf g.2.2, by omega⟩, fun j M1 H1 g hj x H2 y => ?_, fun M1 H1 g => ⟨hf g.2.2, by omega⟩⟩⟩
  obtain ⟨T, key, v, e1, e2, e3, e4⟩ := y
  subst e2 e4
  have g1 := frz_rp (hf g.2.2) (g.1 _ (List.mem_singleton.mpr rfl))
  obtain ⟨x, e5, r5⟩ := g1.2.at e1
  have ek : kAt kds j = kD key := by unfold kAt; rw [e5]; rfl
  have ev : vAt kds j = x := by unfold vAt; rw [e5]; rfl
  refine ⟨Ext.new e3, fun b l => l.upd fun _ z => (by cases z), ?_⟩
  show Rp G.K _ (.ref T) (.tup [kAt kds j, vAt kds j])
  rw [ek, ev]
  exact new_tup g.2.1 e3 (.cons (rpk_kD key) (.cons r5 .nil))
theorem ei_values (t : Tied G td ds kds d kvs) : EvI G b b (iVals td) ds kds.length (vAt kds) := fun gs M H σ S R k => by
  obtain ⟨r, q⟩ := t.rd gs M b H σ S
  obtain ⟨od, h0⟩ := t.at_
  have hf : ∀ {H1}, Ext G.H0 H1 → H1 d = some (.frz od (.dK kvs)) := fun e => e.keep _ _ h0 fun _ z => nomatch z
  have hl : kvs.length = kds.length := (frz_rp (hf S.ext) r).2.length
  refine q _ ⟨d, od, kvs, rfl, hf S.ext, k _ [(.ref d, .dct kds)] H (Ext.refl H) S.lim (fun q z => by rw [List.mem_singleton.mp z]; exact r) ⟨fun j M1 H1 g hj => ⟨hf g.2.2, by omega⟩, fun j M1 H1 g hj x H2 y => ?_, fun M1 H1 g => ⟨hf g.2.2, by omega⟩⟩⟩
  obtain ⟨e4, key, e1⟩ := y
  subst e4
  have g1 := frz_rp (hf g.2.2) (g.1 _ (List.mem_singleton.mpr rfl))
  obtain ⟨x', e5, r5⟩ := g1.2.at e1
  have ev : vAt kds j = x' := by unfold vAt; rw [e5]; rfl
  refine ⟨Ext.refl _, fun b l => l, ?_⟩
  rw [ev]
  exact r5
theorem ei_keys (t : Tied G td ds kds d kvs) : EvI G b b (iKeys td) ds kds.length (kAt kds) := fun gs M H σ S R k => by
  obtain ⟨r, q⟩ := t.rd gs M b H σ S
  obtain ⟨od, h0⟩ := t.at_
  have hf : ∀ {H1}, Ext G.H0 H1 → H1 d = some (.frz od (.dK kvs)) := fun e => e.keep _ _ h0 fun _ z => nomatch z
  have hl : kvs.length = kds.length := (frz_rp (hf S.ext) r).2.length
  refine q _ ⟨d, od, rfl, .inl ⟨kvs, hf S.ext, k _ [(.ref d, .dct kds)] H (Ext.refl H) S.lim (fun q z => by rw [List.mem_singleton.mp z]; exact r) ⟨fun j M1 H1 g hj => ⟨hf g.2.2, by omega⟩, fun j M1 H1 g hj x H2 y => ?_, fun M1 H1 g => ⟨hf g.2.2, by omega⟩⟩⟩⟩
  obtain ⟨e4, key, v, e1, e2⟩ := y
  subst e4 e2
  have g1 := frz_rp (hf g.2.2) (g.1 _ (List.mem_singleton.mpr rfl))
  obtain ⟨x', e5, r5⟩ := g1.2.at e1
  have ev : kAt kds j = kD key := by unfold kAt; rw [e5]; rfl
  refine ⟨Ext.refl _, fun b l => l, ?_⟩
  rw [ev]
  exact rpk_kD key
/-! ### where a dict is found -/
structure Fnd (G : Gx) (td : TE) (ds : List Sd) (kds : List (Key × D)) (i : Nat) (x : D) : Prop where
  sl : ds[i]? = some (.dat x)
  find : ∀ gs M b H σ v0, G.st gs M b H σ ds → σ[i]? = some (some v0) → Rp G.K (msk M H) v0 x → ∃ d kvs, Rd H d (.dK kvs) ∧ ¬ M d ∧
    ∀ H0', (∃ od, H0' d = some (.frz od (.dK kvs))) → (∀ a o, ¬ M a → a ≠ d → H a = some o → H0' a = some o) → Tied (G.at0 H0') td (ds.set i (.fix v0 x)) kds d kvs
theorem fnd_var {i : Nat} (h : ds[i]? = some (.dat (.dct kds))) : Fnd G (tVar i) ds kds i (.dct kds) := ⟨h, fun gs M b H σ v0 S hv r => by
  have r' := r
  cases r with
  | @dct a kvs _ ha q =>
    refine ⟨a, kvs, (rd_of ha).2, (rd_of ha).1, fun H0' h0 _ => ⟨h0, fun gs M b H σ S' => ?_⟩⟩
    have hi : i < ds.length := (List.getElem?_eq_some_iff.mp h).1
    have hl : i < σ.length := by rw [S'.len, List.length_set]; exact hi
    obtain ⟨e, r2⟩ := S'.sl i _ _ (List.getElem?_eq_getElem hl) (List.getElem?_set_self hi)
    exact ⟨r2, fun Q k => ⟨.ref a, by rw [List.getElem?_eq_getElem hl, e], k⟩⟩⟩
theorem fnd_fld {i : Nat} {C : Addr} {fs : List (Str × D)} {f : Str} (h : ds[i]? = some (.dat (.ins C fs))) (c : Cls G.K C) (hno : NoAttr G.K C f) (hl : fs.lookup f = some (.dct kds)) : Fnd G (tFld G.K (tVar i) f) ds kds i (.ins C fs) := ⟨h, fun gs M b H σ v0 S hv r => by
  cases r with
  | @ins a _ dx fsV _ ha q =>
    obtain ⟨w, h2, h3⟩ := q.look hl
    obtain ⟨n1, ha1⟩ := msk_of ha
    cases h3 with
    | @dct d kvs _ hd q2 =>
      refine ⟨d, kvs, (rd_of hd).2, (rd_of hd).1, fun H0' h0 hk => ⟨h0, fun gs M' b H' σ' S' => ?_⟩⟩
      have nad : a ≠ d := fun z => by
        rw [z] at ha1
        rcases (rd_of hd).2 with y | ⟨o, y⟩ <;> (rw [ha1] at y; cases y)
      have ha' : H' a = some (.ins C dx fsV) := S'.ext.keep _ _ (hk a _ n1 nad ha1) fun _ z => nomatch z
      have hi : i < ds.length := (List.getElem?_eq_some_iff.mp h).1
      have hls : i < σ'.length := by rw [S'.len, List.length_set]; exact hi
      obtain ⟨e, r2⟩ := S'.sl i _ _ (List.getElem?_eq_getElem hls) (List.getElem?_set_self hi)
      cases r2 with
      | ins hb q3 =>
        have hb' := (msk_of hb).2
        rw [ha'] at hb'
        cases hb'
        obtain ⟨w2, h4, h5⟩ := q3.look hl
        rw [h2] at h4
        cases h4
        exact ⟨h5, fun Q k => ⟨.ref a, by rw [List.getElem?_eq_getElem hls, e], a, C, dx, fsV, .ref d, rfl, ha', c, hno, h2, k⟩⟩⟩
end
end Sh

namespace Sh
open PySem PySem.Spec PyProof.Rows L2
/-! ### locked, or locked already -/
def tLk (t : TE) : TE := fun σ H Q => tLockE t σ H Q ∨ t σ H Q
def tLkS (t : TS) : TS := fun D σ H => tLock t D σ H ∨ t D σ H
theorem pe_lk {X : Cx} {e : Expr} {t : TE} (h : PE X e t) : PE X e (tLk t) := ⟨fun pins s σ H Q I q => q.elim ((pe_lock h).run pins s σ H Q I) (h.run pins s σ H Q I)⟩
theorem ps_lk {X : Cx} {st : Stmt} {t : TS} (h : PS X st t) : PS X st (tLkS t) := ⟨fun pins s σ H D I q => q.elim ((ps_lock h).run pins s σ H D I) (h.run pins s σ H D I)⟩
theorem swp_id {H : Hp} {d : Addr} {od : Obj} {kvs : List (Key × V)} (h : H d = some (.frz od (.dK kvs))) : Swp H H d := by
  refine ⟨fun _ _ => rfl, ?_, fun _ r => r, ?_, ?_, ?_, ?_, ?_, ?_, ?_, ?_⟩
  all_goals (intros; rw [h]; exact fun z => by cases z)
section
variable {G : Gx} {p : Bool} {lv b b' : Nat} {te td : TE} {t : TS} {ds : List Sd} {kds : List (Key × D)} {i : Nat} {x : D} {E : DE}
/-- the two ways in: H1 the heap in which it is walked, H0' what is held, back: how it is left -/
theorem lock_in {gs : List (V × D)} {M : Addr → Prop} {H : Hp} {σ : List (Option V)} (f : Fnd G td ds kds i x) (S : G.st gs M b H σ ds) : ∃ v0 d kvs, ¬ M d ∧
    ((H d = some (.dK kvs) ∧ ∀ od, Tied (G.at0 (lkH0 M G.M0 (upd H d (.frz od (.dK kvs))))) td (ds.set i (.fix v0 x)) kds d kvs ∧ (G.at0 (lkH0 M G.M0 (upd H d (.frz od (.dK kvs))))).st gs M b (upd H d (.frz od (.dK kvs))) σ (ds.set i (.fix v0 x))) ∨
      ((∃ od, H d = some (.frz od (.dK kvs))) ∧ Tied (G.at0 (lkH0 M G.M0 H)) td (ds.set i (.fix v0 x)) kds d kvs ∧ (G.at0 (lkH0 M G.M0 H)).st gs M b H σ (ds.set i (.fix v0 x)))) := by
  obtain ⟨v0, hv, r0⟩ := S.var f.sl
  obtain ⟨d, kvs, hd, nM, tie⟩ := f.find gs M b H σ v0 S hv r0
  have S1 := S.fix f.sl hv r0
  refine ⟨v0, d, kvs, nM, ?_⟩
  rcases hd with hd | ⟨od0, hd⟩
  · refine .inl ⟨hd, fun od => ⟨tie _ ⟨od, by rw [lkH0_no fun z => nM z.1]; exact upd_same⟩ fun a o n1 n2 ha => by rw [lkH0_no fun z => n1 z.1, upd_ne n2]; exact ha, ?_⟩⟩
    exact S1.lockS (swp_lock hd) nM (by rw [upd_same]; exact fun z => nomatch z) fun φ z => by rw [upd_same] at z; cases z
  · refine .inr ⟨⟨od0, hd⟩, tie _ ⟨od0, by rw [lkH0_no fun z => nM z.1]; exact hd⟩ fun a o n1 n2 ha => by rw [lkH0_no fun z => n1 z.1]; exact ha, ?_⟩
    exact S1.lockS (swp_id hd) nM (by rw [hd]; exact fun z => nomatch z) fun φ z => by rw [hd] at z; cases z
theorem evs_lock {R : D → Prop} (f : Fnd G td ds kds i x) (h : ∀ H0' v0 d kvs, Tied (G.at0 H0') td (ds.set i (.fix v0 x)) kds d kvs → EvS (G.at0 H0') p b b' te (ds.set i (.fix v0 x)) R) : EvS G p b b' (tLk te) ds R := fun gs M H σ S Q k => by
  obtain ⟨v0, d, kvs, nM, q⟩ := lock_in f S
  have nmm : ¬ mmk p M G.M0 d := by
    cases p with
    | true => exact nM
    | false => exact fun z => nM (S.m0 d z)
  rcases q with ⟨hd, q⟩ | ⟨⟨od, hd⟩, q1, q2⟩
  · refine .inl ⟨d, .dK kvs, hd, trivial, fun od => ?_⟩
    obtain ⟨q1, q2⟩ := q od
    refine h _ v0 d kvs q1 gs M _ σ q2 _ fun v y H' ry e l rp => ?_
    obtain ⟨e1, e2⟩ := lock_ext hd e
    exact ⟨e1, k v y _ ry e2 (l.upd fun _ z => by cases z) (rp.swpM (swp_unlock e1) nmm)⟩
  · exact .inr (h _ v0 d kvs q1 gs M _ σ q2 Q k)
theorem ev_lock {y : D} (f : Fnd G td ds kds i x) (h : ∀ H0' v0 d kvs, Tied (G.at0 H0') td (ds.set i (.fix v0 x)) kds d kvs → EvD (G.at0 H0') p b b' te (ds.set i (.fix v0 x)) y) : EvD G p b b' (tLk te) ds y := evs_lock f h
theorem eos_lock {R : List D → Prop} (f : Fnd G td ds kds i x) (h : ∀ H0' v0 d kvs, Tied (G.at0 H0') td (ds.set i (.fix v0 x)) kds d kvs → EvO (G.at0 H0') b b' te (ds.set i (.fix v0 x)) R) : EvO G b b' (tLk te) ds R := fun gs M H σ S Q k => by
  obtain ⟨v0, d, kvs, nM, q⟩ := lock_in f S
  rcases q with ⟨hd, q⟩ | ⟨⟨od, hd⟩, q1, q2⟩
  · refine .inl ⟨d, .dK kvs, hd, trivial, fun od => ?_⟩
    obtain ⟨q1, q2⟩ := q od
    refine h _ v0 d kvs q1 gs M _ σ q2 _ fun a vs xs H' ry e l hn ha rp => ?_
    obtain ⟨e1, e2⟩ := lock_ext hd e
    have nad : a ≠ d := fun z => by rw [z, upd_same] at hn; cases hn
    refine ⟨e1, k a vs xs _ ry e2 (l.upd fun _ z => by cases z) (by rw [upd_ne nad] at hn; exact hn) (by rw [upd_ne nad]; exact ha) (rp.swpM (swp_unlock e1) fun z => z.elim nM fun z => nad z.symm)⟩
  · exact .inr (h _ v0 d kvs q1 gs M _ σ q2 Q k)
theorem ews_lock {R : D → Prop} (f : Fnd G td ds kds i x) (h : ∀ H0' v0 d kvs, Tied (G.at0 H0') td (ds.set i (.fix v0 x)) kds d kvs → EvW (G.at0 H0') lv b b' te (ds.set i (.fix v0 x)) R) : EvW G lv b b' (tLk te) ds R := fun gs M H σ S Q k => by
  obtain ⟨v0, d, kvs, nM, q⟩ := lock_in f S
  rcases q with ⟨hd, q⟩ | ⟨⟨od, hd⟩, q1, q2⟩
  · refine .inl ⟨d, .dK kvs, hd, trivial, fun od => ?_⟩
    obtain ⟨q1, q2⟩ := q od
    refine h _ v0 d kvs q1 gs M _ σ q2 _ fun v y F H' ry e l hF nd tr => ?_
    obtain ⟨e1, e2⟩ := lock_ext hd e
    have nF : d ∉ F := fun z => by have := hF d z; rw [upd_same] at this; cases this
    refine ⟨e1, k v y F _ ry e2 (l.upd fun _ z => by cases z) (fun a ha => ?_) nd (tr.swp (swp_unlock e1) (fun z => z.elim nM nF) fun a ha => .inr ha)⟩
    have := hF a ha
    have nad : a ≠ d := fun z => nF (by rw [← z]; exact ha)
    rw [upd_ne nad] at this
    exact this
  · exact .inr (h _ v0 d kvs q1 gs M _ σ q2 Q k)
/-- the end of what was walked under a lock -/
abbrev DE.lk (E : DE) (i : Nat) (v0 : V) (x : D) : DE := { nx := fun ds' b' => ds'[i]? = some (.fix v0 x) ∧ E.nx (ds'.set i (.dat x)) b', rt := fun y ds' b' => ds'[i]? = some (.fix v0 x) ∧ E.rt y (ds'.set i (.dat x)) b', bk := fun ds' b' => ds'[i]? = some (.fix v0 x) ∧ E.bk (ds'.set i (.dat x)) b', ct := fun ds' b' => ds'[i]? = some (.fix v0 x) ∧ E.ct (ds'.set i (.dat x)) b' }
theorem Stt.unroot {K : PySem.W.Frag} {H0 H H' : Hp} {M0 M M' : Addr → Prop} {b b' : Nat} {σ σ' : List (Option V)} {ds ds' : List Sd} {gs gs' : List (V × D)} (S : Stt K H0 M0 gs M b H σ ds) (S' : Stt K (lkH0 M M0 H) M0 gs' M' b' H' σ' ds') : Stt K H0 M0 gs' M' b' H' σ' ds' := by
  have no : ∀ a, H0 a ≠ none → ¬ (M a ∧ ¬ M0 a) := fun a h z => h (S.new a z.1 z.2)
  refine ⟨⟨⟨fun a o ho n => S'.ext.keep a o (by rw [lkH0_no (no a (by rw [ho]; exact fun z => nomatch z))]; exact S.ext.keep a o ho n) n, fun a c ha => ?_⟩, fun a ha => S'.ext.dom a (by rw [lkH0_no (no a ha)]; exact S.ext.dom a ha)⟩, S'.m0, fun a h n => ?_, S'.liv, S'.lim, S'.len, S'.sl, S'.inj, S'.ownNew, S'.gh⟩
  · obtain ⟨m, k⟩ := S.ext.pz a c ha
    exact S'.ext.pz a m (by rw [lkH0_no (no a (by rw [ha]; exact fun z => nomatch z))]; exact k)
  · have := S'.new a h n
    by_cases y : M a ∧ ¬ M0 a
    · exact S.new a y.1 y.2
    · rw [lkH0_no y] at this
      exact S.ext.free this
theorem w_lock (f : Fnd G td ds kds i x) (ho : E.ro = false) (h : ∀ H0' v0 d kvs, Tied (G.at0 H0') td (ds.set i (.fix v0 x)) kds d kvs → Wt (G.at0 H0') b t (ds.set i (.fix v0 x)) (E.lk i v0 x)) : Wt G b (tLkS t) ds E := fun gs M H σ S Dn w => by
  obtain ⟨v0, d, kvs, nM, q⟩ := lock_in f S
  rcases q with ⟨hd, q⟩ | ⟨⟨od, hd⟩, q1, q2⟩
  · refine .inl ⟨d, .dK kvs, hd, trivial, fun od => ?_⟩
    obtain ⟨q1, q2⟩ := q od
    refine h _ v0 d kvs q1 gs M _ σ q2 _ ⟨fun M' b' H' σ' ds' S' e => ?_, fun M' b' H' σ' ds' v y S' e rp _ => ?_, fun M' b' H' σ' ds' S' e => ?_, fun M' b' H' σ' ds' S' e => ?_⟩
    · obtain ⟨e1, e2, e3⟩ := S.unlockS nM hd S'
      exact ⟨e1, w.nx _ _ _ _ _ (e3.unfix e.1) e.2⟩
    · obtain ⟨e1, e2, e3⟩ := S.unlockS nM hd S'
      exact ⟨e1, w.rt _ _ _ _ _ _ _ (e3.unfix e.1) e.2 (rp.swpM (swp_unlock e1) fun z => nM (S.m0 d z)) fun z => by rw [ho] at z; cases z⟩
    · obtain ⟨e1, e2, e3⟩ := S.unlockS nM hd S'
      exact ⟨e1, w.bk _ _ _ _ _ (e3.unfix e.1) e.2⟩
    · obtain ⟨e1, e2, e3⟩ := S.unlockS nM hd S'
      exact ⟨e1, w.ct _ _ _ _ _ (e3.unfix e.1) e.2⟩
  · refine .inr (h _ v0 d kvs q1 gs M _ σ q2 _ ⟨fun M' b' H' σ' ds' S' e => ?_, fun M' b' H' σ' ds' v y S' e rp _ => ?_, fun M' b' H' σ' ds' S' e => ?_, fun M' b' H' σ' ds' S' e => ?_⟩)
    · exact w.nx _ _ _ _ _ ((S.unroot S').unfix e.1) e.2
    · exact w.rt _ _ _ _ _ _ _ ((S.unroot S').unfix e.1) e.2 rp fun z => by rw [ho] at z; cases z
    · exact w.bk _ _ _ _ _ ((S.unroot S').unfix e.1) e.2
    · exact w.ct _ _ _ _ _ ((S.unroot S').unfix e.1) e.2
theorem ev_fix {v0 : V} {y : D} {j : Nat} (h : ds[j]? = some (.fix v0 y)) : EvD G p b b (tVar j) ds y := fun gs M H σ S Q k => by
  have hl : j < σ.length := by rw [S.len]; exact (List.getElem?_eq_some_iff.mp h).1
  obtain ⟨e, r⟩ := S.sl j _ _ (List.getElem?_eq_getElem hl) h
  exact ⟨v0, by rw [List.getElem?_eq_getElem hl, e], k v0 y H rfl (Ext.refl H) S.lim (S.mmW r)⟩
end
end Sh

/-! Sh36: dict comprehensions with a test. -/
namespace Sh
open PySem PySem.Spec PyProof.Rows L2
theorem EvS.evw0 {G : Gx} {b b' : Nat} {te : TE} {ds : List Sd} {R : D → Prop} (h : EvS G true b b' te ds R) : EvW G 0 b b' te ds R := fun gs M H σ S Q k =>
  h gs M H σ S Q fun v d H' r e l rp => k v d [] H' r e l (fun a z => by cases z) List.nodup_nil (.leaf (rp.mono (msk_sub fun c hc => hc.elim id fun z => by cases z)))
theorem ews_dc {G : Gx} {lv b b1 b' : Nat} {wi : TI} {g : TG} {tt : TT} {tk tv : TE} {vs : List Nat} {ds : List Sd} {n : Nat} {it : Nat → D} (c : Nat) (P : Nat → List (Key × D) → Prop) (hi : EvI G b b1 wi ds n it) (hn : n ≤ 16000) (h0 : P 0 [])
    (hs : ∀ i acc, i < n → P i acc → ∃ ds'', TgR G.K vs g (it i) (wipeD ds vs) ds'' ∧ ∀ b0, ∃ kp : Bool, EtD G (b0 + c) (b0 + c) tt ds'' kp ∧
      (kp = true → ∃ key, key ∉ acc.map (·.1) ∧ EvD G true (b0 + c) (b0 + c) tk ds'' (kD key) ∧ EvW G lv (b0 + c) b0 tv ds'' (fun d => P (i + 1) (acc ++ [(key, d)]))) ∧ (kp = false → P (i + 1) acc))
    (hm : ∀ i acc, P i acc → acc.length ≤ i) (hb : b' + n * c ≤ b1) :
    EvW G (lv + 1) b b' (tDc wi g tt tk tv vs) ds (fun d => ∃ acc, d = .dct acc ∧ P n acc) := fun gs M H σ S Q k =>
  hi gs M H σ S _ fun J gs' H1 e l hg ok => fun D hD => by
    have S1 : Stt G.K G.H0 G.M0 (gs' ++ gs) M b1 H1 σ ds := (S.step e l).ghosts hg
    refine ⟨fun i m H => m = n - i ∧ i ≤ n ∧ ∃ acc us F, P i acc ∧ Ext H1 H ∧ Lim (b' + (n - i) * c) H ∧ (∀ a ∈ D :: F, H1 a = none) ∧ (D :: F).Nodup ∧ H D = some (.dK ((acc.map (·.1)).zip us)) ∧ TrL G.K (fun a => M a ∨ a ∈ D :: F) H us (acc.map fun q => full lv q.2) F,
      ⟨n, by omega, Nat.zero_le _, [], [], [], h0, Ext.new hD, (S1.lim.mono hb).upd (fun _ z => nomatch z), (fun a m => by rw [List.mem_singleton.mp m]; exact hD), List.nodup_cons.mpr ⟨fun z => (nomatch z), List.nodup_nil⟩, upd_same, .nil⟩, ?_⟩
    rintro i m H2 ⟨rfl, hin, acc, us, F, hP, e2, l2, hF, nd, hacc, tl⟩
    have hlv : ∀ a ∈ D :: F, H2 a ≠ none := fun a ha => by
      rcases List.mem_cons.mp ha with rfl | ha
      · rw [hacc]; exact fun z => nomatch z
      · exact tl.liv a ha
    have S2 : Stt G.K G.H0 G.M0 (gs' ++ gs) (fun a => M a ∨ a ∈ D :: F) (b' + (n - i) * c) H2 σ ds := S1.growP (P := fun a => a ∈ D :: F) hF e2 l2 hlv
    have ul : (acc.map (·.1)).length = us.length := by rw [tl.length]; simp
    by_cases hlt : i < n
    · have ec : b' + (n - i) * c = (b' + (n - (i + 1)) * c) + c := by
        have e3 : n - i = (n - (i + 1)) + 1 := by omega
        rw [e3, Nat.add_mul, Nat.one_mul, Nat.add_assoc]
      refine .inr ⟨ok.go i _ H2 S2.gh' hlt, fun H => ∃ acc us F, P (i + 1) acc ∧ Ext H1 H ∧ Lim (b' + (n - (i + 1)) * c) H ∧ (∀ a ∈ D :: F, H1 a = none) ∧ (D :: F).Nodup ∧ H D = some (.dK ((acc.map (·.1)).zip us)) ∧ TrL G.K (fun a => M a ∨ a ∈ D :: F) H us (acc.map fun q => full lv q.2) F, fun H' z => ⟨n - (i + 1), by omega, rfl, hlt, z⟩, fun x H3 y => ?_⟩
      obtain ⟨x1, x2, x3⟩ := ok.yld i _ H2 S2.gh' hlt x H3 y
      obtain ⟨ds'', t1, t2⟩ := hs i acc hlt hP
      have S3 := (S2.step x1 (x2 _ l2)).wipe vs
      rw [ec] at S3
      refine t1 _ _ _ _ _ H3 _ x S3 x3 _ fun σ4 S4 ew => ⟨?_, ?_⟩
      · rw [ew]
        exact wipe_sub vs vs fun _ h => h
      · obtain ⟨kp, q0, q1, q2⟩ := t2 (b' + (n - (i + 1)) * c)
        refine q0 _ _ H3 σ4 S4 _ fun kp' H3' r3 e3 l3 => ?_
        subst r3
        have keepD : ∀ {Hz}, Ext H2 Hz → Hz D = some (.dK ((acc.map (·.1)).zip us)) := fun ez => ez.keep _ _ hacc fun _ z => nomatch z
        have keepT : ∀ {Hz}, Ext H2 Hz → TrL G.K (fun a => M a ∨ a ∈ D :: F) Hz us (acc.map fun q => full lv q.2) F := fun ez => tl.chg (msk_mono ez.toKp) fun a _ o ho no => ez.keep a o ho no
        cases kp' with
        | false =>
          show ∃ acc us F, _
          exact ⟨acc, us, F, q2 rfl, (e2.trans x1).trans e3, l3.mono (Nat.le_add_right _ _), hF, nd, keepD (x1.trans e3), keepT (x1.trans e3)⟩
        | true =>
          obtain ⟨key, hkey, q3, q4⟩ := q1 rfl
          have S4' := S4.step e3 l3
          show tk σ4 H3' _
          refine q3 _ _ H3' σ4 S4' _ fun y d4 H4 r4 e4 l4 rp4 => ?_
          subst r4
          have ey := kD_v rp4
          subst ey
          have S5 := S4'.step e4 l4
          refine q4 _ _ H4 σ4 S5 _ fun z d5 F5 H5 r5 e5 l5 hF5 nd5 tr5 => ?_
          have e25 := ((x1.trans e3).trans e4).trans e5
          have hlen : acc.length ≤ i := hm i acc hP
          refine ⟨_, key, rfl, keepD e25, by rw [List.length_zip, List.length_map]; exact Nat.lt_of_le_of_lt (Nat.min_le_left _ _) (Nat.lt_of_le_of_lt (Nat.le_trans hlen (Nat.le_trans hin hn)) (by decide)), ?_⟩
          rw [putK_new ul hkey]
          have ek : acc.map (·.1) ++ [key] = (acc ++ [(key, d5)]).map (·.1) := by rw [List.map_append]; rfl
          rw [ek]
          have new5 : ∀ a ∈ F5, H2 a = none := fun a ha => ((x1.trans e3).trans e4).free (hF5 a ha)
          have dis : ∀ a ∈ F5, a ∉ D :: F := fun a ha z => hlv a z (new5 a ha)
          have memb : ∀ a, a ∈ D :: (F ++ F5) ↔ a ∈ D :: F ∨ a ∈ F5 := fun a => by simp [or_assoc]
          have hmask : (fun c => (M c ∨ c ∈ D :: F) ∨ c ∈ F5) = fun a => M a ∨ a ∈ D :: (F ++ F5) := by
            funext a
            apply propext
            rw [memb a, or_assoc]
          have kpu : ∀ o, msk (fun a => M a ∨ a ∈ D :: (F ++ F5)) (upd H5 D o) = msk (fun a => M a ∨ a ∈ D :: (F ++ F5)) H5 := fun o => msk_upd (.inr List.mem_cons_self)
          have DnF : D ∉ F := (List.nodup_cons.mp nd).1
          have DnF5 : D ∉ F5 := fun z => dis D z List.mem_cons_self
          have k1 : Kp (msk (fun a => M a ∨ a ∈ D :: F) H2) (msk (fun a => M a ∨ a ∈ D :: (F ++ F5)) H5) := by
            rw [← hmask]
            exact kp_grow (P := fun a => a ∈ F5) new5 e25
          generalize ho : HO.dK (((acc ++ [(key, d5)]).map (·.1)).zip (us ++ [z])) = o5
          have hx5 : ∀ φ, o5 ≠ .ext φ := fun φ z => by rw [← ho] at z; cases z
          have tl' : TrL G.K (fun a => M a ∨ a ∈ D :: (F ++ F5)) (upd H5 D o5) us (acc.map fun q => full lv q.2) F := tl.chg (by rw [kpu]; exact k1) fun a ha o ho no => by
            rw [upd_ne fun z => DnF (by rw [← z]; exact ha)]
            exact e25.keep a o ho no
          have tr' : Tr G.K (fun a => M a ∨ a ∈ D :: (F ++ F5)) (upd H5 D o5) z (full lv d5) F5 := tr5.chg (by rw [kpu, hmask]; exact Kp.refl _) fun a ha o ho no => by
            rw [upd_ne fun z => DnF5 (by rw [← z]; exact ha)]
            exact ho
          refine ⟨acc ++ [(key, d5)], us ++ [z], F ++ F5, r5, ⟨⟨fun a o ha no => ?_, fun a j ha => ?_⟩, fun a ha => ?_⟩, l5.upd hx5, fun a ha => ?_, ?_, by rw [upd_same, ho], ?_⟩
          · rw [upd_ne (ne_of_none ha hD)]
            exact (e2.trans e25).keep a o ha no
          · rw [upd_ne (ne_of_none ha hD)]
            exact (e2.trans e25).pz a j ha
          · by_cases z : a = D
            · rw [z, upd_same]; exact fun z => nomatch z
            · rw [upd_ne z]; exact (e2.trans e25).dom a ha
          · rcases (memb a).mp ha with ha | ha
            · exact hF a ha
            · exact e2.free (new5 a ha)
          · obtain ⟨n1, n2⟩ := List.nodup_cons.mp nd
            refine List.nodup_cons.mpr ⟨fun z => (List.mem_append.mp z).elim n1 DnF5, List.nodup_append.mpr ⟨n2, nd5, fun a ha c hc z => ?_⟩⟩
            rw [← z] at hc
            exact dis a hc (List.mem_cons_of_mem _ ha)
          · have q := tl'.app (.cons tr' .nil)
            simp only [List.append_nil] at q
            have et : ((acc ++ [(key, d5)]).map fun q => full lv q.2) = (acc.map fun q => full lv q.2) ++ [full lv d5] := by rw [List.map_append]; rfl
            rw [et]
            exact q
    · have en : i = n := by omega
      subst en
      refine .inl ⟨ok.stop _ _ S2.gh', ?_⟩
      have ef : full (lv + 1) (.dct acc) = .node (.dct (acc.map (·.1))) (acc.map fun q => full lv q.2) := rfl
      refine k (.ref D) _ (D :: F) H2 ⟨acc, rfl, hP⟩ (e.trans e2) (by have q := l2; rw [Nat.sub_self, Nat.zero_mul] at q; exact q) (fun a ha => e.free (hF a ha)) nd ?_
      rw [ef]
      exact .node hacc ⟨ul, rfl⟩ tl
theorem head_cons {F : List Addr} {a : Addr} (h : F.head? = some a) : ∃ r, F = a :: r := by
  cases F with
  | nil => cases h
  | cons x r => simp at h; exact ⟨r, by rw [h]⟩
/-- C(e, ..), nothing drawn or raised -/
theorem ew_mk {G : Gx} {lv b b1 n : Nat} {t : TA} {ds : List Sd} {E : L2.St → XK} {C : Addr} {F : Fm} {es : List D} {z : D} (ha : EaD G true b b1 t ds es) (hn : es.length = n) (hF : es.length = F.n) (hd : F.dom (t0C C) es) (hc : F.cost (t0C C) es = 0)
    (hr : ∀ t' d, F.res (t0C C) es t' d → d = .non ∧ t' = full lv z) (hx : ∀ t' D x, ¬ F.exn (t0C C) es t' D x) : EvW G lv b b1 (tMk C n 0 (SpM G.K F) (fun vs _ => vs) E t tNil) ds (fun d => d = z) :=
  ews_mk (b' := b1) (gD := fun es _ => es) ha ea_nil (fun H x vs zs es fs r _ => ⟨vs, rfl, r⟩) (fun fs e => by rw [e]; rfl) fun es' fs e1 e2 => by
    subst e1
    exact ⟨hn, hF, hd, by rw [hc]; omega, fun t' d q => ⟨(hr t' d q).1, z, (hr t' d q).2, rfl⟩, fun t' D x q => absurd q (hx t' D x)⟩
end Sh

/-! Sh37: name = {dict comprehension} on one line. -/
namespace Sh
open PySem PySem.Spec PyProof PyProof.Rows L2
theorem sw_trueD {kx vx : Expr} {gs : List Comprehension} {scope : Scope} {pos py : Pos} {y : Str} {l : Nat} {env : Env} (hk : env.scope.kind = .function) (hy : env.scope.names.lookup y = some .local) (hl : (py.line == pos.line) = true)
    (ha : (scope.names.any fun (n, k) => n == y && (k == .local || k == .cell)) = false) : swapsWith (.DictComp kx vx gs scope pos) (some (.Name y py)) l env = pure true := by
  have ky : env.kindOf y = some .local := hy
  have hb : env.blockKind = .function := by unfold Env.blockKind; rw [hk]; rfl
  unfold swapsWith
  simp only [hb, ky, ha, Expr.pos, hl]
  rfl
theorem ps_setDc {X : Cx} {i : Nat} {y : Str} {py : Pos} {kx vx tg iter : Expr} {ifs : List Expr} {scope : Scope} {own : List (Str × Nat)} {pos spos : Pos} {wi : TI} {g : TG} {tt : TT} {tk tv : TE} (hc : X.calm = true) (hN : X.N.Nodup) (hy : X.N[i]? = some y) (hyl : X.env.scope.names.lookup y = some .local)
    (hsw : swapsWith (.DictComp kx vx [⟨tg, iter, ifs, 0⟩] scope pos) (some (.Name y py)) spos.line X.env = pure true) (hi : PI X tg iter wi) (ok : BlkOk X.N X.env.scope scope own)
    (hg : ∀ (s : Shared) (H : Hp) (C : Addr) (cl : List (Str × Addr)) (fp : List Addr), PG (X.blk s H scope (compEnvC scope cl C X.env) fp) tg g) (ht : ∀ (s : Shared) (H : Hp) (C : Addr) (cl : List (Str × Addr)) (fp : List Addr), PTs (X.blk s H scope (compEnvC scope cl C X.env) fp) ifs tt)
    (hk : ∀ (s : Shared) (H : Hp) (C : Addr) (cl : List (Str × Addr)) (fp : List Addr), PE (X.blk s H scope (compEnvC scope cl C X.env) fp) kx tk)
    (he : ∀ (s : Shared) (H : Hp) (C : Addr) (cl : List (Str × Addr)) (fp : List Addr), PE (X.blk s H scope (compEnvC scope cl C X.env) fp) vx tv) (hs : ∀ x, foldedSetIterable iter X.env x = pure x := by intro _; rfl) :
    PS X (.Assign [.Name y py] (.DictComp kx vx [⟨tg, iter, ifs, 0⟩] scope pos) spos) (tAsg (tDc wi g tt tk tv (own.map (·.2))) (gName i)) := by
  refine ⟨fun pins s σ H D I h => ?_⟩
  rw [exec_Assign_Name_used _ _ _ _ hsw]
  refine wpAny_bind (wpAny_standAt (wpAny_bind ?_))
  show wpAny _ X.A (do let _ ← comprehension (.DictComp kx vx [⟨tg, iter, ifs, 0⟩] scope pos) scope X.env (firstIterPos [⟨tg, iter, ifs, 0⟩] pos) newDict false (eval iter X.env) (some (assign (.Name y py) X.env))) _ _ s
  have h : tDc wi g tt tk tv (own.map (·.2)) σ H (fun x H1 => gName i x σ H1 D.nx) := h
  refine wpAny_bind (thn (dc_core (Qf := fun _ s' => SP X pins D .next s') hc hN I hi ok hg ht hk he hs h fun L C s' m H' I' q hn f => ?_) fun _ s' hq => wpAny_pure (wpAny_pure hq))
  show wpAny _ _ (assign (.Name y py) X.env (.ref L)) _ _ _
  refine wpAny_assign_Name (store_ok2 (v := V.ref L) I' hN hy (.inl hyl) rfl (fun s2 I2 ⟨a, sb, ha⟩ => ?_) (.inr hyl))
  obtain ⟨f0, f1, f2, f3, f4, f5⟩ := f
  have haC : C ≠ a := by
    rcases ha with z | z
    · rw [z]; exact f1
    · exact fun e => f4 y a z e.symm
  refine ⟨m, hn.sameBut sb haC, fun h3 sb3 => ?_⟩
  exact ⟨_, H', I2.turned (t' := s2.toks) (fun b o hb e => (sb3.2 b hb).trans e) f0 f1 f3 f4 f5, q⟩
end Sh

/-! Sh38: list comprehensions whose test draws. -/
namespace Sh
open PySem PySem.Spec PyProof.Rows L2
theorem eos_lcT {G : Gx} {b b1 b' : Nat} {wi : TI} {g : TG} {tt : TT} {te : TE} {vs : List Nat} {ds : List Sd} {n : Nat} {it : Nat → D} (c : Nat) (P : Nat → List D → Prop) (hi : EvI G b b1 wi ds n it) (hn : n ≤ 100000) (h0 : P 0 [])
    (hs : ∀ i acc, i < n → P i acc → ∃ ds'', TgR G.K vs g (it i) (wipeD ds vs) ds'' ∧ ∀ b0, ∃ (c' : Nat) (T : Bool → Prop), EvT G (b0 + c) (b0 + c') tt ds'' T ∧ (T true → EvS G true (b0 + c') b0 te ds'' (fun d => P (i + 1) (acc ++ [d]))) ∧ (T false → P (i + 1) acc))
    (hl : ∀ acc, P n acc → acc.length ≤ n) (hm : ∀ i acc, P i acc → acc.length ≤ i) (hb : b' + n * c ≤ b1) : EvO G b b' (tLc wi g tt te vs) ds (P n) := fun gs M H σ S Q k =>
  hi gs M H σ S _ fun J gs' H1 e l hg ok => fun D hD => by
    have S1 : Stt G.K G.H0 G.M0 (gs' ++ gs) M b1 H1 σ ds := (S.step e l).ghosts hg
    have nMD : ¬ M D := fun z => S1.liv D z hD
    refine ⟨fun i m H => m = n - i ∧ i ≤ n ∧ ∃ acc es, Ext H1 H ∧ Lim (b' + (n - i) * c) H ∧ H D = some (.lst acc) ∧ RpA G.K (msk (fun a => M a ∨ a = D) H) acc es ∧ P i es, ⟨n, by omega, Nat.zero_le _, [], [], Ext.new hD, (S1.lim.mono hb).upd (fun _ z => nomatch z), upd_same, .nil, h0⟩, ?_⟩
    rintro i m H2 ⟨rfl, hin, acc, es, e2, l2, hacc, racc, p2⟩
    have S2 : Stt G.K G.H0 G.M0 (gs' ++ gs) (fun a => M a ∨ a = D) (b' + (n - i) * c) H2 σ ds := S1.grow hD e2 l2 (by rw [hacc]; exact fun z => nomatch z)
    by_cases hlt : i < n
    · refine .inr ⟨ok.go i _ H2 S2.gh' hlt, fun H => ∃ acc es, Ext H1 H ∧ Lim (b' + (n - (i + 1)) * c) H ∧ H D = some (.lst acc) ∧ RpA G.K (msk (fun a => M a ∨ a = D) H) acc es ∧ P (i + 1) es, fun H' z => ⟨n - (i + 1), by omega, rfl, hlt, z⟩, fun x H3 y => ?_⟩
      obtain ⟨x1, x2, x3⟩ := ok.yld i _ H2 S2.gh' hlt x H3 y
      obtain ⟨ds'', t1, t2⟩ := hs i es hlt p2
      have ec : b' + (n - i) * c = (b' + (n - (i + 1)) * c) + c := by
        have e3 : n - i = (n - (i + 1)) + 1 := by omega
        rw [e3, Nat.add_mul, Nat.one_mul, Nat.add_assoc]
      have S3 := (S2.step x1 (x2 _ S2.lim)).wipe vs
      rw [ec] at S3
      refine t1 _ _ _ _ _ H3 _ x S3 x3 _ fun σ4 S4 ew => ⟨?_, ?_⟩
      · rw [ew]
        have ww : ∀ ws : List Nat, (∀ v ∈ ws, v ∈ vs) → L2.wipe (L2.wipe σ ws) vs = L2.wipe σ vs := fun ws => by
          induction ws with
          | nil => intro _; rfl
          | cons v ws ih =>
            intro hv
            show L2.wipe ((L2.wipe σ ws).set v none) vs = L2.wipe σ vs
            rw [wipe_in _ _ _ _ (hv v List.mem_cons_self), ih fun u hu => hv u (List.mem_cons_of_mem _ hu)]
        exact ww vs fun _ h => h
      · obtain ⟨c', T, q1, q2, q3⟩ := t2 (b' + (n - (i + 1)) * c)
        refine q1 _ _ H3 σ4 S4 _ fun kp' H4 r4 e4 l4 => ?_
        have hacc4 : H4 D = some (.lst acc) := e4.keep _ _ (x1.keep _ _ hacc fun _ z => nomatch z) fun _ z => nomatch z
        cases kp' with
        | false =>
          show ∃ acc es, _
          exact ⟨acc, es, (e2.trans x1).trans e4, l4.mono (Nat.le_add_right _ _), hacc4, (racc.mono (msk_mono x1.toKp)).mono (msk_mono e4.toKp), q3 r4⟩
        | true =>
          show te σ4 H4 _
          refine q2 r4 _ _ H4 σ4 (S4.step e4 l4) _ fun v d H5 r5 e5 l5 rp5 => ?_
          have hacc5 : H5 D = some (.lst acc) := e5.keep _ _ hacc4 fun _ z => nomatch z
          have len : acc.length ≤ n := by
            rw [racc.length]
            exact Nat.le_trans (hm i es p2) hin
          refine ⟨acc, hacc5, Nat.lt_of_le_of_lt (Nat.le_trans len hn) (by decide), acc ++ [v], es ++ [d], ?_, l5.upd (fun _ z => nomatch z), upd_same, ?_, r5⟩
          · exact (((e2.trans x1).trans e4).trans e5).mut hD
          · rw [msk_upd (.inr rfl)]
            exact (((racc.mono (msk_mono x1.toKp)).mono (msk_mono e4.toKp)).mono (msk_mono e5.toKp)).append (.cons rp5 .nil)
    · have en : i = n := by omega
      subst en
      refine .inl ⟨ok.stop _ H2 S2.gh', ?_⟩
      exact k D acc es H2 p2 (e.trans e2) (by have q := l2; rw [Nat.sub_self, Nat.zero_mul] at q; exact q) (e.free hD) hacc racc
theorem evs_lcT {G : Gx} {p : Bool} {b b1 b' : Nat} {wi : TI} {g : TG} {tt : TT} {te : TE} {vs : List Nat} {ds : List Sd} {n : Nat} {it : Nat → D} (c : Nat) (P : Nat → List D → Prop) (hi : EvI G b b1 wi ds n it) (hn : n ≤ 100000) (h0 : P 0 [])
    (hs : ∀ i acc, i < n → P i acc → ∃ ds'', TgR G.K vs g (it i) (wipeD ds vs) ds'' ∧ ∀ b0, ∃ (c' : Nat) (T : Bool → Prop), EvT G (b0 + c) (b0 + c') tt ds'' T ∧ (T true → EvS G true (b0 + c') b0 te ds'' (fun d => P (i + 1) (acc ++ [d]))) ∧ (T false → P (i + 1) acc))
    (hl : ∀ acc, P n acc → acc.length ≤ n) (hm : ∀ i acc, P i acc → acc.length ≤ i) (hb : b' + n * c ≤ b1) : EvS G p b b' (tLc wi g tt te vs) ds (fun d => ∃ acc, d = .lst acc ∧ P n acc) := (eos_lcT c P hi hn h0 hs hl hm hb).evs
end Sh

namespace Lw
open PySem PySem.Spec PyProof.Rows L2 Sh
local macro_rules | `(tactic| walk_at "ev") => `(tactic| first
  | exact ev_var rfl
  | with_reducible exact ev_int
  | with_reducible exact ev_bl
  | with_reducible exact ev_non
  | with_reducible exact ev_str
  | with_reducible exact ev_dnew
  | ((with_reducible apply ev_op) <;> walk_at "ev")
  | ((with_reducible apply ev_un) <;> walk_at "ev")
  | ((with_reducible apply ev_lst) <;> first | walk_at "ev" | exact Nat.le_of_ble_eq_true rfl | skip)
  | ((with_reducible apply ev_tup) <;> first | walk_at "ev" | exact Nat.le_of_ble_eq_true rfl | skip)
  | ((with_reducible apply ev_cb) <;> walk_at "ev")
  | ((with_reducible apply ev_cal) <;> first | walk_at "cal" | walk_at "ev" | exact rfl)
  | ((with_reducible apply ev_calK) <;> first | walk_at "cal" | walk_at "ev" | exact rfl)
  | ((with_reducible apply ev_calD) <;> first | walk_at "cal" | walk_at "ev" | exact rfl | assumption)
  | ((with_reducible apply ev_ktup); assumption)
  | ((with_reducible apply (ev_chain (p := false) (w := .non))) <;> first | walk_at "ev" | (intro _; walk_at "ev"))
  | ((with_reducible apply ev_notV) <;> walk_at "ev")
  | ((with_reducible apply ev_slice) <;> walk_at "ev")
  | with_reducible exact ep_none
  | ((with_reducible apply ev_rev) <;> walk_at "ev")
  | ((with_reducible apply ep_some) <;> walk_at "ev")
  | with_reducible exact sl_L
  | with_reducible exact sl_T
  | with_reducible exact ev_ty
  | with_reducible exact ev_ref
  | with_reducible exact ea_nil
  | ((with_reducible apply ea_cons) <;> walk_at "ev")
  | ((with_reducible apply et_tst) <;> walk_at "ev")
  | ((with_reducible apply et_not) <;> walk_at "ev")
  | ((with_reducible apply et_tru) <;> first | walk_at "ev" | rfl)
  | ((with_reducible apply et_or) <;> first | walk_at "ev" | (intro _; walk_at "ev"))
  | ((with_reducible apply et_and) <;> first | walk_at "ev" | (intro _; walk_at "ev"))
  | ((with_reducible apply ev_andV) <;> first | walk_at "ev" | (intro _; walk_at "ev"))
  | ((with_reducible apply ev_orV) <;> first | walk_at "ev" | (intro _; walk_at "ev"))
  | walk_at "op"
  | exact ev_own rfl
  | exact ev_par rfl
  | ((with_reducible apply EvD.flatT) <;> first | walk_at "ev" | rfl))
local macro_rules | `(tactic| walk_at "op") => `(tactic| first
  | walk_at "op1"
  | ((with_reducible apply Op2D.as) <;> first | walk_at "op1" | rfl)
  | ((with_reducible apply ClD.as) <;> first | walk_at "op1" | rfl)
  | with_reducible apply Op2.id
  | with_reducible apply ClA.id)
local macro_rules | `(tactic| walk_at "op1") => `(tactic| first
  | with_reducible exact o_add | with_reducible exact o_sub | with_reducible exact o_lt | with_reducible exact o_le | with_reducible exact o_gt | with_reducible exact o_ge | with_reducible exact o_eqI | with_reducible exact o_neI | with_reducible exact u_neg
  | ((with_reducible apply o_mod); first | decide | omega | skip)
  | ((with_reducible apply o_mul); walk_at "mul")
  | ((with_reducible apply o_div); walk_at "div")
  | ((with_reducible apply o_pow); walk_at "pow")
  | with_reducible exact c_max | with_reducible exact c_min | with_reducible exact c_lenL | with_reducible exact c_lenT | with_reducible exact c_lenR
  | with_reducible exact o_isN1 | with_reducible exact o_notN1
  | ((with_reducible apply o_isN); first | exact (fun z => nomatch z) | assumption | skip)
  | ((with_reducible apply o_notN); first | exact (fun z => nomatch z) | assumption | skip)
  | with_reducible exact o_isB | with_reducible exact o_notB
  | with_reducible exact o_inI | with_reducible exact o_notinI | with_reducible exact o_inIT
  | with_reducible refine c_isiE (by assumption) (by first | exact ClsC.own _ | exact ClsC.ty _) (by assumption)
  | ((with_reducible apply c_isi) <;> first | walk_at "kb" | rfl)
  | with_reducible exact c_intI | with_reducible exact c_intB
  | ((with_reducible apply c_listof); first | rfl | skip)
  | ((with_reducible apply c_tupof); first | rfl | skip)
  | ((with_reducible apply c_sumL); first | rfl | skip)
  | ((with_reducible apply c_sumT); first | rfl | skip)
  | ((with_reducible apply c_all); first | rfl | skip)
  | ((with_reducible apply o_catT); first | exact Nat.le_of_ble_eq_true rfl | skip)
  | ((with_reducible apply o_catL); first | exact Nat.le_of_ble_eq_true rfl | skip)
  | ((with_reducible apply c_divm) <;> first | decide | omega | skip)
  | ((with_reducible apply o_ixL); first | rfl | assumption | skip)
  | ((with_reducible apply o_ixT); first | rfl | assumption | skip)
  | ((with_reducible apply o_ixR); first | assumption | skip))
local macro_rules | `(tactic| walk_at "mul") => `(tactic| first | assumption | exact cmul_of 70 70 (by decide) (by decide) | exact cmul_of 400 400 (by omega) (by omega) | skip)
local macro_rules | `(tactic| walk_at "div") => `(tactic| skip)
local macro_rules | `(tactic| walk_at "pow") => `(tactic| first | exact cpow_small 5 (by decide) (by decide) (by decide) | skip)
local macro_rules | `(tactic| walk_at "b") => `(tactic| (first | exact Nat.le_refl _ | exact Nat.le_add_left _ _ | omega))
local macro_rules | `(tactic| walk_at "tg") => `(tactic| first
  | exact tg_name
  | with_reducible exact tgs_nil
  | (apply tgs_cons <;> walk_at "tg")
  | (apply tg_tup (hl := rfl) <;> walk_at "tg")
  | (apply tg_lst (hl := rfl) <;> walk_at "tg"))
local macro_rules | `(tactic| walk_at "cal") => `(tactic| first
  | (with_reducible exact cl_make (by omega) (by omega))
  | (with_reducible exact cl_makeI (by omega) (by omega))
  | fail "no cal")
local macro_rules | `(tactic| walk_at "kb") => `(tactic| first
  | with_reducible exact kb_NoneType_bool
  | with_reducible exact kb_NoneType_int
  | with_reducible exact kb_NoneType_str
  | with_reducible exact kb_NoneType_list
  | with_reducible exact kb_NoneType_tuple
  | with_reducible exact kb_NoneType_dict
  | with_reducible exact kb_bool_bool
  | with_reducible exact kb_bool_int
  | with_reducible exact kb_bool_str
  | with_reducible exact kb_bool_list
  | with_reducible exact kb_bool_tuple
  | with_reducible exact kb_bool_dict
  | with_reducible exact kb_int_bool
  | with_reducible exact kb_int_int
  | with_reducible exact kb_int_str
  | with_reducible exact kb_int_list
  | with_reducible exact kb_int_tuple
  | with_reducible exact kb_int_dict
  | with_reducible exact kb_str_bool
  | with_reducible exact kb_str_int
  | with_reducible exact kb_str_str
  | with_reducible exact kb_str_list
  | with_reducible exact kb_str_tuple
  | with_reducible exact kb_str_dict
  | with_reducible exact kb_list_bool
  | with_reducible exact kb_list_int
  | with_reducible exact kb_list_str
  | with_reducible exact kb_list_list
  | with_reducible exact kb_list_tuple
  | with_reducible exact kb_list_dict
  | with_reducible exact kb_tuple_bool
  | with_reducible exact kb_tuple_int
  | with_reducible exact kb_tuple_str
  | with_reducible exact kb_tuple_list
  | with_reducible exact kb_tuple_tuple
  | with_reducible exact kb_tuple_dict
  | with_reducible exact kb_dict_bool
  | with_reducible exact kb_dict_int
  | with_reducible exact kb_dict_str
  | with_reducible exact kb_dict_list
  | with_reducible exact kb_dict_tuple
  | with_reducible exact kb_dict_dict)
def top (i : Nat) : Stmt := PySem.Challenge.pw_sherdhall_k14_the_rest_of_a_group.main.body.getD i (.Pass ⟨0, 0, 0, 0⟩)
abbrev s_plus : Stmt := top 8
abbrev N_plus : List Str := ["one", "other"]
theorem sc_plus : FnScope N_plus ["one", "other"] (defScope s_plus) := ⟨rfl, rfl, rfl, by decide +kernel, rfl, by decide +kernel, by decide +kernel⟩
abbrev s_times : Stmt := top 9
abbrev N_times : List Str := ["one", "other"]
theorem sc_times : FnScope N_times ["one", "other"] (defScope s_times) := ⟨rfl, rfl, rfl, by decide +kernel, rfl, by decide +kernel, by decide +kernel⟩
abbrev s_power : Stmt := top 10
abbrev N_power : List Str := ["one", "many", "found", "base", "odd"]
theorem sc_power : FnScope N_power ["one", "many"] (defScope s_power) := ⟨rfl, rfl, rfl, by decide +kernel, rfl, by decide +kernel, by decide +kernel⟩
abbrev s_over : Stmt := top 11
abbrev N_over : List Str := ["one", "other"]
theorem sc_over : FnScope N_over ["one", "other"] (defScope s_over) := ⟨rfl, rfl, rfl, by decide +kernel, rfl, by decide +kernel, by decide +kernel⟩
abbrev s_less : Stmt := top 13
abbrev N_less : List Str := ["row", "other", "factor", "one", "two"]
theorem sc_less : FnScope N_less ["row", "other", "factor"] (defScope s_less) := ⟨rfl, rfl, rfl, by decide +kernel, rfl, by decide +kernel, by decide +kernel⟩
abbrev s_cleared : Stmt := top 14
abbrev N_cleared : List Str := ["rows", "place", "at", "row", "back", "other"]
theorem sc_cleared : FnScope N_cleared ["rows", "place"] (defScope s_cleared) := ⟨rfl, rfl, rfl, by decide +kernel, rfl, by decide +kernel, by decide +kernel⟩
abbrev s_row_at : Stmt := top 15
abbrev N_row_at : List Str := ["rows", "place", "row"]
theorem sc_row_at : FnScope N_row_at ["rows", "place"] (defScope s_row_at) := ⟨rfl, rfl, rfl, by decide +kernel, rfl, by decide +kernel, by decide +kernel⟩
abbrev s_is_whole : Stmt := top 21
abbrev N_is_whole : List Str := ["thing"]
theorem sc_is_whole : FnScope N_is_whole ["thing"] (defScope s_is_whole) := ⟨rfl, rfl, rfl, by decide +kernel, rfl, by decide +kernel, by decide +kernel⟩
abbrev s_is_shape : Stmt := top 22
abbrev N_is_shape : List Str := ["thing", "groups", "size", "sums", "one"]
theorem sc_is_shape : FnScope N_is_shape ["thing"] (defScope s_is_shape) := ⟨rfl, rfl, rfl, by decide +kernel, rfl, by decide +kernel, by decide +kernel⟩
abbrev s_need_shape : Stmt := top 23
abbrev N_need_shape : List Str := ["thing"]
theorem sc_need_shape : FnScope N_need_shape ["thing"] (defScope s_need_shape) := ⟨rfl, rfl, rfl, by decide +kernel, rfl, by decide +kernel, by decide +kernel⟩
abbrev s_count : Stmt := top 24
abbrev N_count : List Str := ["shape", "groups", "size", "sums"]
theorem sc_count : FnScope N_count ["shape"] (defScope s_count) := ⟨rfl, rfl, rfl, by decide +kernel, rfl, by decide +kernel, by decide +kernel⟩
abbrev s_is_place : Stmt := top 25
abbrev N_is_place : List Str := ["thing", "shape"]
theorem sc_is_place : FnScope N_is_place ["thing", "shape"] (defScope s_is_place) := ⟨rfl, rfl, rfl, by decide +kernel, rfl, by decide +kernel, by decide +kernel⟩
abbrev s_need_places : Stmt := top 26
abbrev N_need_places : List Str := ["things", "shape", "thing"]
theorem sc_need_places : FnScope N_need_places ["things", "shape"] (defScope s_need_places) := ⟨rfl, rfl, rfl, by decide +kernel, rfl, by decide +kernel, by decide +kernel⟩
abbrev s_data_places : Stmt := top 27
abbrev N_data_places : List Str := ["shape", "groups", "size", "sums", "group", "at"]
theorem sc_data_places : FnScope N_data_places ["shape"] (defScope s_data_places) := ⟨rfl, rfl, rfl, by decide +kernel, rfl, by decide +kernel, by decide +kernel⟩
abbrev s_kind_of : Stmt := top 28
abbrev N_kind_of : List Str := ["place", "shape", "groups", "size", "sums", "group", "at"]
theorem sc_kind_of : FnScope N_kind_of ["place", "shape"] (defScope s_kind_of) := ⟨rfl, rfl, rfl, by decide +kernel, rfl, by decide +kernel, by decide +kernel⟩
abbrev s_mark : Stmt := top 29
abbrev N_mark : List Str := ["place", "shape", "word", "where", "group", "at"]
theorem sc_mark : FnScope N_mark ["place", "shape"] (defScope s_mark) := ⟨rfl, rfl, rfl, by decide +kernel, rfl, by decide +kernel, by decide +kernel⟩
abbrev s_local_check : Stmt := top 30
abbrev N_local_check : List Str := ["group", "shape", "groups", "size", "sums", "row", "first"]
theorem sc_local_check : FnScope N_local_check ["group", "shape"] (defScope s_local_check) := ⟨rfl, rfl, rfl, by decide +kernel, rfl, by decide +kernel, by decide +kernel⟩
abbrev s_over_check : Stmt := top 31
abbrev N_over_check : List Str := ["number", "shape", "groups", "size", "sums", "row", "place"]
theorem sc_over_check : FnScope N_over_check ["number", "shape"] (defScope s_over_check) := ⟨rfl, rfl, rfl, by decide +kernel, rfl, by decide +kernel, by decide +kernel⟩
abbrev s_checks : Stmt := top 32
abbrev N_checks : List Str := ["shape", "groups", "size", "sums", "rows", "group", "number"]
theorem sc_checks : FnScope N_checks ["shape"] (defScope s_checks) := ⟨rfl, rfl, rfl, by decide +kernel, rfl, by decide +kernel, by decide +kernel⟩
abbrev s_filled : Stmt := top 33
abbrev N_filled : List Str := ["data", "shape", "groups", "size", "sums", "marks", "found", "group", "own", "number", "first", "at", "one", "other"]
theorem sc_filled : FnScope N_filled ["data", "shape"] (defScope s_filled) := ⟨rfl, rfl, rfl, by decide +kernel, rfl, by decide +kernel, by decide +kernel⟩
abbrev s_unit_fillings : Stmt := top 36
abbrev N_unit_fillings : List Str := ["shape", "wide", "own", "at"]
theorem sc_unit_fillings : FnScope N_unit_fillings ["shape"] (defScope s_unit_fillings) := ⟨rfl, rfl, rfl, by decide +kernel, rfl, by decide +kernel, by decide +kernel⟩
abbrev s_checks_of : Stmt := top 37
abbrev N_checks_of : List Str := ["left", "wanted", "shape", "rows", "place"]
theorem sc_checks_of : FnScope N_checks_of ["left", "wanted", "shape"] (defScope s_checks_of) := ⟨rfl, rfl, rfl, by decide +kernel, rfl, by decide +kernel, by decide +kernel⟩
abbrev s_ghost_of : Stmt := top 38
abbrev N_ghost_of : List Str := ["left", "wanted", "shape", "rows", "place"]
theorem sc_ghost_of : FnScope N_ghost_of ["left", "wanted", "shape"] (defScope s_ghost_of) := ⟨rfl, rfl, rfl, by decide +kernel, rfl, by decide +kernel, by decide +kernel⟩
abbrev s_Recipe_init : Stmt := clsStmt (top 35) 0
abbrev N_Recipe_init : List Str := ["self", "wanted", "reads", "factors"]
theorem sc_Recipe_init : FnScope N_Recipe_init ["self", "wanted", "reads", "factors"] (defScope s_Recipe_init) := ⟨rfl, rfl, rfl, by decide +kernel, rfl, by decide +kernel, by decide +kernel⟩
abbrev s_recipe_by : Stmt := top 39
abbrev N_recipe_by : List Str := ["row", "wanted", "back", "reads", "place", "factor"]
theorem sc_recipe_by : FnScope N_recipe_by ["row", "wanted"] (defScope s_recipe_by) := ⟨rfl, rfl, rfl, by decide +kernel, rfl, by decide +kernel, by decide +kernel⟩
abbrev s_recipe : Stmt := top 40
abbrev N_recipe : List Str := ["left", "wanted", "shape", "row"]
theorem sc_recipe : FnScope N_recipe ["left", "wanted", "shape"] (defScope s_recipe) := ⟨rfl, rfl, rfl, by decide +kernel, rfl, by decide +kernel, by decide +kernel⟩
abbrev s_recipes : Stmt := top 41
abbrev N_recipes : List Str := ["left", "shape", "lost", "rows", "place", "row"]
theorem sc_recipes : FnScope N_recipes ["left", "shape"] (defScope s_recipes) := ⟨rfl, rfl, rfl, by decide +kernel, rfl, by decide +kernel, by decide +kernel⟩
abbrev s__law_purse : Stmt := top 43
abbrev N__law_purse : List Str := ["script", "k", "cell"]
theorem sc__law_purse : FnScope N__law_purse ["script", "k"] (defScope s__law_purse) := ⟨rfl, rfl, rfl, by decide +kernel, rfl, by decide +kernel, by decide +kernel⟩
abbrev s__law_drawn : Stmt := top 44
abbrev N__law_drawn : List Str := ["purse", "many", "found", "turn", "mixed"]
theorem sc__law_drawn : FnScope N__law_drawn ["purse", "many"] (defScope s__law_drawn) := ⟨rfl, rfl, rfl, by decide +kernel, rfl, by decide +kernel, by decide +kernel⟩
abbrev s__law_shape : Stmt := top 45
abbrev N__law_shape : List Str := ["purse", "most", "found", "groups", "size", "sums"]
theorem sc__law_shape : FnScope N__law_shape ["purse", "most"] (defScope s__law_shape) := ⟨rfl, rfl, rfl, by decide +kernel, rfl, by decide +kernel, by decide +kernel⟩
abbrev s__law_filled : Stmt := top 46
abbrev N__law_filled : List Str := ["mould", "data", "groups", "size", "sums", "found", "overs", "group", "own", "at", "sign", "one"]
theorem sc__law_filled : FnScope N__law_filled ["mould", "data"] (defScope s__law_filled) := ⟨rfl, rfl, rfl, by decide +kernel, rfl, by decide +kernel, by decide +kernel⟩
abbrev s__law_whole : Stmt := top 47
abbrev N__law_whole : List Str := ["found"]
theorem sc__law_whole : FnScope N__law_whole ["found"] (defScope s__law_whole) := ⟨rfl, rfl, rfl, by decide +kernel, rfl, by decide +kernel, by decide +kernel⟩
abbrev s__law_same : Stmt := top 48
abbrev N__law_same : List Str := ["found", "due", "k"]
theorem sc__law_same : FnScope N__law_same ["found", "due"] (defScope s__law_same) := ⟨rfl, rfl, rfl, by decide +kernel, rfl, by decide +kernel, by decide +kernel⟩
abbrev s__law_units : Stmt := top 49
abbrev N__law_units : List Str := ["mould", "wide", "own", "at"]
theorem sc__law_units : FnScope N__law_units ["mould"] (defScope s__law_units) := ⟨rfl, rfl, rfl, by decide +kernel, rfl, by decide +kernel, by decide +kernel⟩
abbrev s_Recipe_len : Stmt := clsStmt (top 35) 2
abbrev N_Recipe_len : List Str := ["self"]
theorem sc_Recipe_len : FnScope N_Recipe_len ["self"] (defScope s_Recipe_len) := ⟨rfl, rfl, rfl, by decide +kernel, rfl, by decide +kernel, by decide +kernel⟩
abbrev s__law_right : Stmt := top 50
abbrev N__law_right : List Str := ["found", "units", "left", "wanted", "unit", "came", "one", "place", "factor"]
theorem sc__law_right : FnScope N__law_right ["found", "units", "left", "wanted"] (defScope s__law_right) := ⟨rfl, rfl, rfl, by decide +kernel, rfl, by decide +kernel, by decide +kernel⟩
abbrev s__law_recipe : Stmt := top 51
abbrev N__law_recipe : List Str := ["left", "wanted", "mould", "found", "caught", "e"]
theorem sc__law_recipe : FnScope N__law_recipe ["left", "wanted", "mould"] (defScope s__law_recipe) := ⟨rfl, rfl, rfl, by decide +kernel, rfl, by decide +kernel, by decide +kernel⟩
abbrev s__law_alone : Stmt := top 52
abbrev N__law_alone : List Str := ["rest", "wanted", "spot", "factors"]
theorem sc__law_alone : FnScope N__law_alone ["rest", "wanted", "spot"] (defScope s__law_alone) := ⟨rfl, rfl, rfl, by decide +kernel, rfl, by decide +kernel, by decide +kernel⟩
abbrev s_Recipe_eq : Stmt := clsStmt (top 35) 1
abbrev N_Recipe_eq : List Str := ["self", "other"]
theorem sc_Recipe_eq : FnScope N_Recipe_eq ["self", "other"] (defScope s_Recipe_eq) := ⟨rfl, rfl, rfl, by decide +kernel, rfl, by decide +kernel, by decide +kernel⟩
abbrev s_law : Stmt := top 53
abbrev N_law : List Str := ["script", "k", "purse", "mould", "units", "first", "own", "wanted", "rest", "others", "left", "at", "found", "caught", "every", "far", "place"]
theorem sc_law : FnScope N_law ["script"] (defScope s_law) := ⟨rfl, rfl, rfl, by decide +kernel, rfl, by decide +kernel, by decide +kernel⟩
abbrev s_Hidden_init : Stmt := clsStmt (top 5) 0
theorem sc_Hidden_init : FnScope ["self", "place", "ghost"] ["self", "place", "ghost"] (defScope s_Hidden_init) := ⟨rfl, rfl, rfl, by decide +kernel, rfl, by decide +kernel, by decide +kernel⟩
abbrev s_NoPlace_init : Stmt := clsStmt (top 4) 0
theorem sc_NoPlace_init : FnScope ["self", "place"] ["self", "place"] (defScope s_NoPlace_init) := ⟨rfl, rfl, rfl, by decide +kernel, rfl, by decide +kernel, by decide +kernel⟩
abbrev s_NoShape_init : Stmt := clsStmt (top 3) 0
theorem sc_NoShape_init : FnScope ["self", "shape"] ["self", "shape"] (defScope s_NoShape_init) := ⟨rfl, rfl, rfl, by decide +kernel, rfl, by decide +kernel, by decide +kernel⟩
/-! ### the head: one run in the kernel; what it tells -/
def dd_plus : He.DefD := ⟨("plus", none), "plus", "plus", defArgs s_plus, defBody s_plus, defScope s_plus, [], []⟩
def dd_times : He.DefD := ⟨("times", none), "times", "times", defArgs s_times, defBody s_times, defScope s_times, [], []⟩
def dd_power : He.DefD := ⟨("power", none), "power", "power", defArgs s_power, defBody s_power, defScope s_power, [], []⟩
def dd_over : He.DefD := ⟨("over", none), "over", "over", defArgs s_over, defBody s_over, defScope s_over, [], []⟩
def dd_less : He.DefD := ⟨("less", none), "less", "less", defArgs s_less, defBody s_less, defScope s_less, [], []⟩
def dd_cleared : He.DefD := ⟨("cleared", none), "cleared", "cleared", defArgs s_cleared, defBody s_cleared, defScope s_cleared, [], []⟩
def dd_row_at : He.DefD := ⟨("row_at", none), "row_at", "row_at", defArgs s_row_at, defBody s_row_at, defScope s_row_at, [], []⟩
def dd_is_whole : He.DefD := ⟨("is_whole", none), "is_whole", "is_whole", defArgs s_is_whole, defBody s_is_whole, defScope s_is_whole, [], []⟩
def dd_is_shape : He.DefD := ⟨("is_shape", none), "is_shape", "is_shape", defArgs s_is_shape, defBody s_is_shape, defScope s_is_shape, [], []⟩
def dd_need_shape : He.DefD := ⟨("need_shape", none), "need_shape", "need_shape", defArgs s_need_shape, defBody s_need_shape, defScope s_need_shape, [], []⟩
def dd_count : He.DefD := ⟨("count", none), "count", "count", defArgs s_count, defBody s_count, defScope s_count, [], [("shape", He.Dv.glo "PLAIN")]⟩
def dd_is_place : He.DefD := ⟨("is_place", none), "is_place", "is_place", defArgs s_is_place, defBody s_is_place, defScope s_is_place, [], []⟩
def dd_need_places : He.DefD := ⟨("need_places", none), "need_places", "need_places", defArgs s_need_places, defBody s_need_places, defScope s_need_places, [], []⟩
def dd_data_places : He.DefD := ⟨("data_places", none), "data_places", "data_places", defArgs s_data_places, defBody s_data_places, defScope s_data_places, [], [("shape", He.Dv.glo "PLAIN")]⟩
def dd_kind_of : He.DefD := ⟨("kind_of", none), "kind_of", "kind_of", defArgs s_kind_of, defBody s_kind_of, defScope s_kind_of, [], [("shape", He.Dv.glo "PLAIN")]⟩
def dd_mark : He.DefD := ⟨("mark", none), "mark", "mark", defArgs s_mark, defBody s_mark, defScope s_mark, [], [("shape", He.Dv.glo "PLAIN")]⟩
def dd_local_check : He.DefD := ⟨("local_check", none), "local_check", "local_check", defArgs s_local_check, defBody s_local_check, defScope s_local_check, [], []⟩
def dd_over_check : He.DefD := ⟨("over_check", none), "over_check", "over_check", defArgs s_over_check, defBody s_over_check, defScope s_over_check, [], []⟩
def dd_checks : He.DefD := ⟨("checks", none), "checks", "checks", defArgs s_checks, defBody s_checks, defScope s_checks, [], [("shape", He.Dv.glo "PLAIN")]⟩
def dd_filled : He.DefD := ⟨("filled", none), "filled", "filled", defArgs s_filled, defBody s_filled, defScope s_filled, [], []⟩
def dd_unit_fillings : He.DefD := ⟨("unit_fillings", none), "unit_fillings", "unit_fillings", defArgs s_unit_fillings, defBody s_unit_fillings, defScope s_unit_fillings, [], []⟩
def dd_checks_of : He.DefD := ⟨("checks_of", none), "checks_of", "checks_of", defArgs s_checks_of, defBody s_checks_of, defScope s_checks_of, [], []⟩
def dd_ghost_of : He.DefD := ⟨("ghost_of", none), "ghost_of", "ghost_of", defArgs s_ghost_of, defBody s_ghost_of, defScope s_ghost_of, [], []⟩
def dd_Recipe_init : He.DefD := ⟨("Recipe", some "__init__"), "__init__", "Recipe.__init__", defArgs s_Recipe_init, defBody s_Recipe_init, defScope s_Recipe_init, [], []⟩
def dd_recipe_by : He.DefD := ⟨("recipe_by", none), "recipe_by", "recipe_by", defArgs s_recipe_by, defBody s_recipe_by, defScope s_recipe_by, [], []⟩
def dd_recipe : He.DefD := ⟨("recipe", none), "recipe", "recipe", defArgs s_recipe, defBody s_recipe, defScope s_recipe, [], [("shape", He.Dv.glo "PLAIN")]⟩
def dd_recipes : He.DefD := ⟨("recipes", none), "recipes", "recipes", defArgs s_recipes, defBody s_recipes, defScope s_recipes, [], [("shape", He.Dv.glo "PLAIN")]⟩
def dd__law_purse : He.DefD := ⟨("_law_purse", none), "_law_purse", "_law_purse", defArgs s__law_purse, defBody s__law_purse, defScope s__law_purse, [], []⟩
def dd__law_drawn : He.DefD := ⟨("_law_drawn", none), "_law_drawn", "_law_drawn", defArgs s__law_drawn, defBody s__law_drawn, defScope s__law_drawn, [], []⟩
def dd__law_shape : He.DefD := ⟨("_law_shape", none), "_law_shape", "_law_shape", defArgs s__law_shape, defBody s__law_shape, defScope s__law_shape, [], []⟩
def dd__law_filled : He.DefD := ⟨("_law_filled", none), "_law_filled", "_law_filled", defArgs s__law_filled, defBody s__law_filled, defScope s__law_filled, [], []⟩
def dd__law_whole : He.DefD := ⟨("_law_whole", none), "_law_whole", "_law_whole", defArgs s__law_whole, defBody s__law_whole, defScope s__law_whole, [], []⟩
def dd__law_same : He.DefD := ⟨("_law_same", none), "_law_same", "_law_same", defArgs s__law_same, defBody s__law_same, defScope s__law_same, [], []⟩
def dd__law_units : He.DefD := ⟨("_law_units", none), "_law_units", "_law_units", defArgs s__law_units, defBody s__law_units, defScope s__law_units, [], []⟩
def dd_Recipe_len : He.DefD := ⟨("Recipe", some "__len__"), "__len__", "Recipe.__len__", defArgs s_Recipe_len, defBody s_Recipe_len, defScope s_Recipe_len, [], []⟩
def dd__law_right : He.DefD := ⟨("_law_right", none), "_law_right", "_law_right", defArgs s__law_right, defBody s__law_right, defScope s__law_right, [], []⟩
def dd__law_recipe : He.DefD := ⟨("_law_recipe", none), "_law_recipe", "_law_recipe", defArgs s__law_recipe, defBody s__law_recipe, defScope s__law_recipe, [], []⟩
def dd__law_alone : He.DefD := ⟨("_law_alone", none), "_law_alone", "_law_alone", defArgs s__law_alone, defBody s__law_alone, defScope s__law_alone, [], []⟩
def dd_Recipe_eq : He.DefD := ⟨("Recipe", some "__eq__"), "__eq__", "Recipe.__eq__", defArgs s_Recipe_eq, defBody s_Recipe_eq, defScope s_Recipe_eq, [], []⟩
def dd_law : He.DefD := ⟨("law", none), "law", "law", defArgs s_law, defBody s_law, defScope s_law, [], []⟩
def dd_Hidden_init : He.DefD := ⟨("Hidden", some "__init__"), "__init__", "Hidden.__init__", defArgs s_Hidden_init, defBody s_Hidden_init, defScope s_Hidden_init, [], []⟩
def dd_NoPlace_init : He.DefD := ⟨("NoPlace", some "__init__"), "__init__", "NoPlace.__init__", defArgs s_NoPlace_init, defBody s_NoPlace_init, defScope s_NoPlace_init, [], []⟩
def dd_NoShape_init : He.DefD := ⟨("NoShape", some "__init__"), "__init__", "NoShape.__init__", defArgs s_NoShape_init, defBody s_NoShape_init, defScope s_NoShape_init, [], []⟩
def fnL0 : List He.DefD := [dd_plus,
  dd_times,
  dd_power,
  dd_over,
  dd_less,
  dd_cleared,
  dd_row_at,
  dd_is_whole,
  dd_is_shape,
  dd_need_shape,
  dd_count,
  dd_is_place,
  dd_need_places,
  dd_data_places,
  dd_kind_of,
  dd_mark,
  dd_local_check,
  dd_over_check,
  dd_checks,
  dd_filled,
  dd_unit_fillings,
  dd_checks_of,
  dd_ghost_of,
  dd_Recipe_init,
  dd_recipe_by]
def fnL1 : List He.DefD := [dd_recipe,
  dd_recipes,
  dd__law_purse,
  dd__law_drawn,
  dd__law_shape,
  dd__law_filled,
  dd__law_whole,
  dd__law_same,
  dd__law_units,
  dd_Recipe_len,
  dd__law_right,
  dd__law_recipe,
  dd__law_alone,
  dd_Recipe_eq,
  dd_law,
  dd_Hidden_init,
  dd_NoPlace_init,
  dd_NoShape_init]
def fnL : List He.DefD := fnL0 ++ (fnL1)
def exL0 (K : PySem.W.Frag) : List Bool := [decide (PySem.W.nsIn K mainGlobals "plus" = some (some (.ref (He.ga K "plus")))),
  decide (PySem.W.nsIn K mainGlobals "times" = some (some (.ref (He.ga K "times")))),
  decide (PySem.W.nsIn K mainGlobals "power" = some (some (.ref (He.ga K "power")))),
  decide (PySem.W.nsIn K mainGlobals "over" = some (some (.ref (He.ga K "over")))),
  decide (PySem.W.nsIn K mainGlobals "less" = some (some (.ref (He.ga K "less")))),
  decide (PySem.W.nsIn K mainGlobals "cleared" = some (some (.ref (He.ga K "cleared")))),
  decide (PySem.W.nsIn K mainGlobals "row_at" = some (some (.ref (He.ga K "row_at")))),
  decide (PySem.W.nsIn K mainGlobals "is_whole" = some (some (.ref (He.ga K "is_whole")))),
  decide (PySem.W.nsIn K mainGlobals "is_shape" = some (some (.ref (He.ga K "is_shape")))),
  decide (PySem.W.nsIn K mainGlobals "need_shape" = some (some (.ref (He.ga K "need_shape")))),
  decide (PySem.W.nsIn K mainGlobals "count" = some (some (.ref (He.ga K "count")))),
  decide (PySem.W.nsIn K mainGlobals "is_place" = some (some (.ref (He.ga K "is_place")))),
  decide (PySem.W.nsIn K mainGlobals "need_places" = some (some (.ref (He.ga K "need_places")))),
  decide (PySem.W.nsIn K mainGlobals "data_places" = some (some (.ref (He.ga K "data_places")))),
  decide (PySem.W.nsIn K mainGlobals "kind_of" = some (some (.ref (He.ga K "kind_of")))),
  decide (PySem.W.nsIn K mainGlobals "mark" = some (some (.ref (He.ga K "mark")))),
  decide (PySem.W.nsIn K mainGlobals "local_check" = some (some (.ref (He.ga K "local_check")))),
  decide (PySem.W.nsIn K mainGlobals "over_check" = some (some (.ref (He.ga K "over_check")))),
  decide (PySem.W.nsIn K mainGlobals "checks" = some (some (.ref (He.ga K "checks")))),
  decide (PySem.W.nsIn K mainGlobals "filled" = some (some (.ref (He.ga K "filled")))),
  decide (PySem.W.nsIn K mainGlobals "unit_fillings" = some (some (.ref (He.ga K "unit_fillings")))),
  decide (PySem.W.nsIn K mainGlobals "checks_of" = some (some (.ref (He.ga K "checks_of")))),
  decide (PySem.W.nsIn K mainGlobals "ghost_of" = some (some (.ref (He.ga K "ghost_of")))),
  decide (PySem.W.nsIn K mainGlobals "recipe_by" = some (some (.ref (He.ga K "recipe_by")))),
  decide (PySem.W.nsIn K mainGlobals "recipe" = some (some (.ref (He.ga K "recipe"))))]
def exL1 (K : PySem.W.Frag) : List Bool := [decide (PySem.W.nsIn K mainGlobals "recipes" = some (some (.ref (He.ga K "recipes")))),
  decide (PySem.W.nsIn K mainGlobals "_law_purse" = some (some (.ref (He.ga K "_law_purse")))),
  decide (PySem.W.nsIn K mainGlobals "_law_drawn" = some (some (.ref (He.ga K "_law_drawn")))),
  decide (PySem.W.nsIn K mainGlobals "_law_shape" = some (some (.ref (He.ga K "_law_shape")))),
  decide (PySem.W.nsIn K mainGlobals "_law_filled" = some (some (.ref (He.ga K "_law_filled")))),
  decide (PySem.W.nsIn K mainGlobals "_law_whole" = some (some (.ref (He.ga K "_law_whole")))),
  decide (PySem.W.nsIn K mainGlobals "_law_same" = some (some (.ref (He.ga K "_law_same")))),
  decide (PySem.W.nsIn K mainGlobals "_law_units" = some (some (.ref (He.ga K "_law_units")))),
  decide (PySem.W.nsIn K mainGlobals "_law_right" = some (some (.ref (He.ga K "_law_right")))),
  decide (PySem.W.nsIn K mainGlobals "_law_recipe" = some (some (.ref (He.ga K "_law_recipe")))),
  decide (PySem.W.nsIn K mainGlobals "_law_alone" = some (some (.ref (He.ga K "_law_alone")))),
  decide (PySem.W.nsIn K mainGlobals "law" = some (some (.ref (He.ga K "law")))),
  He.tupB K "MARKS" (([1, 11, 40, 30] : List Int).map He.Dv.int),
  decide (PySem.W.nsIn K mainGlobals "MARKS" = some (some (.ref (He.ga K "MARKS")))),
  He.tupB K "PLAIN" (([2, 3, 2] : List Int).map He.Dv.int),
  decide (PySem.W.nsIn K mainGlobals "PLAIN" = some (some (.ref (He.ga K "PLAIN")))),
  (He.Fa.int "PRIME" 97).ok K,
  (He.Fa.int "MOST_SIZE" 4).ok K,
  (He.Fa.int "MOST_SUMS" 2).ok K,
  decide (PySem.W.kitOne K (.type "NoneType") (.ref (He.ga K "Hidden")) = some false),
  decide (PySem.W.nsIn K mainGlobals "Hidden" = some (some (.ref (He.ga K "Hidden")))),
  decide (PySem.W.kitOne K (.type "NoneType") (.ref (He.ga K "NoPlace")) = some false),
  decide (PySem.W.nsIn K mainGlobals "NoPlace" = some (some (.ref (He.ga K "NoPlace")))),
  decide (PySem.W.kitOne K (.type "NoneType") (.ref (He.ga K "NoShape")) = some false),
  decide (PySem.W.nsIn K mainGlobals "NoShape" = some (some (.ref (He.ga K "NoShape"))))]
def exL2 (K : PySem.W.Frag) : List Bool := [PySem.W.plainGet K (He.ga K "Recipe") Str.empty,
  PySem.W.hasDictIn K (He.ga K "Recipe"),
  PySem.W.plainOver K (He.ga K "Recipe"),
  decide (PySem.W.findIn K (.ref (He.ga K "Recipe")) "__setattr__" = some (some (.builtin "object.__setattr__"))),
  decide (PySem.W.findIn K (.ref (He.ga K "Recipe")) "__class__" = some (some (.builtin "object.__class__"))),
  decide (PySem.W.specialIn K (.builtin "object.__class__") "__get__" = some (some (.builtin "getset_descriptor.__get__"))),
  decide (PySem.W.takesIn K (.builtin "object.__class__") = some true),
  decide (PySem.W.mroIn K (He.ga K "Recipe") (.type "object") = some true),
  decide (PySem.W.kitOne K (.type "NoneType") (.ref (He.ga K "Recipe")) = some false),
  decide (PySem.W.nsIn K mainGlobals "Recipe" = some (some (.ref (He.ga K "Recipe")))),
  PySem.W.makesIn K (He.ga K "Recipe"),
  decide (PySem.W.findIn K (.ref (He.ga K "Recipe")) "__init__" = some (some (.ref (He.ma K (He.ga K "Recipe") "__init__")))),
  PySem.W.isFn K (.ref (He.ma K (He.ga K "Recipe") "__init__")),
  PySem.W.keepIn K (.ref (He.ga K "Recipe")),
  decide (PySem.W.findIn K (.ref (He.ga K "Recipe")) "wanted" = some none),
  decide (PySem.W.findIn K (.ref (He.ga K "Recipe")) "reads" = some none),
  decide (PySem.W.findIn K (.ref (He.ga K "Recipe")) "factors" = some none),
  decide (PySem.W.findIn K (.ref (He.ga K "Recipe")) "__init__" = some (some (.ref (He.ma K (He.ga K "Recipe") "__init__")))),
  PySem.W.isFn K (.ref (He.ma K (He.ga K "Recipe") "__init__")),
  PySem.W.keepIn K (.ref (He.ma K (He.ga K "Recipe") "__init__")),
  decide (PySem.W.findIn K (.ref (He.ga K "Recipe")) "__eq__" = some (some (.ref (He.ma K (He.ga K "Recipe") "__eq__")))),
  PySem.W.isFn K (.ref (He.ma K (He.ga K "Recipe") "__eq__")),
  PySem.W.keepIn K (.ref (He.ma K (He.ga K "Recipe") "__eq__")),
  decide (PySem.W.findIn K (.ref (He.ga K "Recipe")) "__len__" = some (some (.ref (He.ma K (He.ga K "Recipe") "__len__")))),
  PySem.W.isFn K (.ref (He.ma K (He.ga K "Recipe") "__len__"))]
def exL3 (K : PySem.W.Frag) : List Bool := [PySem.W.keepIn K (.ref (He.ma K (He.ga K "Recipe") "__len__")),
  decide (PySem.W.kitOne K (.type "NoneType") (.ref (He.ga K "Recipe")) = some false),
  decide (PySem.W.kitOne K (.ref (He.ga K "Recipe")) (.type "NoneType") = some false),
  PySem.W.notFirst K (He.ga K "Recipe") (.type "NoneType"),
  decide (PySem.W.kitOne K (.type "bool") (.ref (He.ga K "Recipe")) = some false),
  decide (PySem.W.kitOne K (.ref (He.ga K "Recipe")) (.type "bool") = some false),
  PySem.W.notFirst K (He.ga K "Recipe") (.type "bool"),
  decide (PySem.W.kitOne K (.type "int") (.ref (He.ga K "Recipe")) = some false),
  decide (PySem.W.kitOne K (.ref (He.ga K "Recipe")) (.type "int") = some false),
  PySem.W.notFirst K (He.ga K "Recipe") (.type "int"),
  decide (PySem.W.kitOne K (.type "str") (.ref (He.ga K "Recipe")) = some false),
  decide (PySem.W.kitOne K (.ref (He.ga K "Recipe")) (.type "str") = some false),
  PySem.W.notFirst K (He.ga K "Recipe") (.type "str"),
  decide (PySem.W.kitOne K (.type "list") (.ref (He.ga K "Recipe")) = some false),
  decide (PySem.W.kitOne K (.ref (He.ga K "Recipe")) (.type "list") = some false),
  PySem.W.notFirst K (He.ga K "Recipe") (.type "list"),
  decide (PySem.W.kitOne K (.type "tuple") (.ref (He.ga K "Recipe")) = some false),
  decide (PySem.W.kitOne K (.ref (He.ga K "Recipe")) (.type "tuple") = some false),
  PySem.W.notFirst K (He.ga K "Recipe") (.type "tuple"),
  decide (PySem.W.kitOne K (.type "dict") (.ref (He.ga K "Recipe")) = some false),
  decide (PySem.W.kitOne K (.ref (He.ga K "Recipe")) (.type "dict") = some false),
  PySem.W.notFirst K (He.ga K "Recipe") (.type "dict"),
  decide (PySem.W.kitOne K (.ref (He.ga K "Recipe")) (.ref (He.ga K "Recipe")) = some true),
  decide (PySem.W.subIn K (.ref (He.ga K "Hidden")) (.type "BaseException") = some true),
  excB K (He.ga K "Hidden")]
def exL4 (K : PySem.W.Frag) : List Bool := [decide (PySem.W.findIn K (.ref (He.ga K "Hidden")) "__setattr__" = some (some (.builtin "object.__setattr__"))),
  decide (PySem.W.typeIn K (.ref (He.ga K "Hidden")) = some (.type "type")),
  PySem.W.keepIn K (.ref (He.ga K "Hidden")),
  decide (PySem.W.findIn K (.ref (He.ga K "Hidden")) "__getattribute__" = some (some (.builtin "BaseException.__getattribute__"))),
  decide (PySem.W.findIn K (.ref (He.ga K "Hidden")) "__getattr__" = some none),
  PySem.W.hasDictIn K (He.ga K "Hidden"),
  decide (PySem.W.findIn K (.ref (He.ga K "Hidden")) "__class__" = some (some (.builtin "object.__class__"))),
  decide (PySem.W.specialIn K (.builtin "object.__class__") "__get__" = some (some (.builtin "getset_descriptor.__get__"))),
  decide (PySem.W.takesIn K (.builtin "object.__class__") = some true),
  decide (PySem.W.mroIn K (He.ga K "Hidden") (.type "object") = some true),
  decide (PySem.W.findIn K (.ref (He.ga K "Hidden")) "place" = some none),
  decide (PySem.W.findIn K (.ref (He.ga K "Hidden")) "place" = some none),
  decide (PySem.W.findIn K (.ref (He.ga K "Hidden")) "ghost" = some none),
  decide (PySem.W.findIn K (.ref (He.ga K "Hidden")) "__init__" = some (some (.ref (He.ma K (He.ga K "Hidden") "__init__")))),
  decide (PySem.W.typeIn K (.ref (He.ma K (He.ga K "Hidden") "__init__")) = some (.type "function")),
  decide (PySem.W.exmOne K (.ref (He.ga K "Hidden")) (.ref (He.ga K "Hidden")) = some true),
  decide (PySem.W.kitOne K (.ref (He.ga K "Hidden")) (.ref (He.ga K "Hidden")) = some true),
  decide (PySem.W.kitOne K (.ref (He.ga K "Hidden")) (.ref (He.ga K "NoPlace")) = some false),
  decide (PySem.W.kitOne K (.ref (He.ga K "Hidden")) (.ref (He.ga K "NoShape")) = some false),
  decide (PySem.W.subIn K (.ref (He.ga K "NoPlace")) (.type "BaseException") = some true),
  excB K (He.ga K "NoPlace"),
  decide (PySem.W.findIn K (.ref (He.ga K "NoPlace")) "__setattr__" = some (some (.builtin "object.__setattr__"))),
  decide (PySem.W.typeIn K (.ref (He.ga K "NoPlace")) = some (.type "type")),
  PySem.W.keepIn K (.ref (He.ga K "NoPlace")),
  decide (PySem.W.findIn K (.ref (He.ga K "NoPlace")) "__getattribute__" = some (some (.builtin "BaseException.__getattribute__")))]
def exL5 (K : PySem.W.Frag) : List Bool := [decide (PySem.W.findIn K (.ref (He.ga K "NoPlace")) "__getattr__" = some none),
  PySem.W.hasDictIn K (He.ga K "NoPlace"),
  decide (PySem.W.findIn K (.ref (He.ga K "NoPlace")) "__class__" = some (some (.builtin "object.__class__"))),
  decide (PySem.W.specialIn K (.builtin "object.__class__") "__get__" = some (some (.builtin "getset_descriptor.__get__"))),
  decide (PySem.W.takesIn K (.builtin "object.__class__") = some true),
  decide (PySem.W.mroIn K (He.ga K "NoPlace") (.type "object") = some true),
  decide (PySem.W.findIn K (.ref (He.ga K "NoPlace")) "place" = some none),
  decide (PySem.W.findIn K (.ref (He.ga K "NoPlace")) "__init__" = some (some (.ref (He.ma K (He.ga K "NoPlace") "__init__")))),
  decide (PySem.W.typeIn K (.ref (He.ma K (He.ga K "NoPlace") "__init__")) = some (.type "function")),
  decide (PySem.W.exmOne K (.ref (He.ga K "NoPlace")) (.ref (He.ga K "Hidden")) = some false),
  decide (PySem.W.kitOne K (.ref (He.ga K "NoPlace")) (.ref (He.ga K "Hidden")) = some false),
  decide (PySem.W.kitOne K (.ref (He.ga K "NoPlace")) (.ref (He.ga K "NoPlace")) = some true),
  decide (PySem.W.kitOne K (.ref (He.ga K "NoPlace")) (.ref (He.ga K "NoShape")) = some false),
  decide (PySem.W.subIn K (.ref (He.ga K "NoShape")) (.type "BaseException") = some true),
  excB K (He.ga K "NoShape"),
  decide (PySem.W.findIn K (.ref (He.ga K "NoShape")) "__setattr__" = some (some (.builtin "object.__setattr__"))),
  decide (PySem.W.typeIn K (.ref (He.ga K "NoShape")) = some (.type "type")),
  PySem.W.keepIn K (.ref (He.ga K "NoShape")),
  decide (PySem.W.findIn K (.ref (He.ga K "NoShape")) "__getattribute__" = some (some (.builtin "BaseException.__getattribute__"))),
  decide (PySem.W.findIn K (.ref (He.ga K "NoShape")) "__getattr__" = some none),
  PySem.W.hasDictIn K (He.ga K "NoShape"),
  decide (PySem.W.findIn K (.ref (He.ga K "NoShape")) "__class__" = some (some (.builtin "object.__class__"))),
  decide (PySem.W.specialIn K (.builtin "object.__class__") "__get__" = some (some (.builtin "getset_descriptor.__get__"))),
  decide (PySem.W.takesIn K (.builtin "object.__class__") = some true),
  decide (PySem.W.mroIn K (He.ga K "NoShape") (.type "object") = some true)]
def exL6 (K : PySem.W.Frag) : List Bool := [decide (PySem.W.findIn K (.ref (He.ga K "NoShape")) "shape" = some none),
  decide (PySem.W.findIn K (.ref (He.ga K "NoShape")) "__init__" = some (some (.ref (He.ma K (He.ga K "NoShape") "__init__")))),
  decide (PySem.W.typeIn K (.ref (He.ma K (He.ga K "NoShape") "__init__")) = some (.type "function")),
  decide (PySem.W.exmOne K (.ref (He.ga K "NoShape")) (.ref (He.ga K "Hidden")) = some false),
  decide (PySem.W.kitOne K (.ref (He.ga K "NoShape")) (.ref (He.ga K "Hidden")) = some false),
  decide (PySem.W.kitOne K (.ref (He.ga K "NoShape")) (.ref (He.ga K "NoPlace")) = some false),
  decide (PySem.W.kitOne K (.ref (He.ga K "NoShape")) (.ref (He.ga K "NoShape")) = some true),
  decide (PySem.W.nsIn K mainGlobals "all" = some none),
  decide (PySem.W.nsIn K mainGlobals "bool" = some none),
  decide (PySem.W.nsIn K mainGlobals "divmod" = some none),
  decide (PySem.W.nsIn K mainGlobals "enumerate" = some none),
  decide (PySem.W.nsIn K mainGlobals "int" = some none),
  decide (PySem.W.nsIn K mainGlobals "isinstance" = some none),
  decide (PySem.W.nsIn K mainGlobals "len" = some none),
  decide (PySem.W.nsIn K mainGlobals "list" = some none),
  decide (PySem.W.nsIn K mainGlobals "max" = some none),
  decide (PySem.W.nsIn K mainGlobals "min" = some none),
  decide (PySem.W.nsIn K mainGlobals "range" = some none),
  decide (PySem.W.nsIn K mainGlobals "set" = some none),
  decide (PySem.W.nsIn K mainGlobals "sorted" = some none),
  decide (PySem.W.nsIn K mainGlobals "sum" = some none),
  decide (PySem.W.nsIn K mainGlobals "tuple" = some none),
  decide (PySem.W.nsIn K mainGlobals "zip" = some none)]
def exL (K : PySem.W.Frag) : List Bool := exL0 K ++ (exL1 K ++ (exL2 K ++ (exL3 K ++ (exL4 K ++ (exL5 K ++ (exL6 K))))))
def loL0 : List PySem.Str := ["SherdError",
  "NoRest",
  "NoShape",
  "NoPlace",
  "Hidden",
  "PRIME",
  "plus",
  "times",
  "power",
  "over",
  "less",
  "cleared",
  "row_at",
  "MARKS",
  "MOST_SIZE",
  "MOST_SUMS",
  "PLAIN",
  "is_whole",
  "is_shape",
  "need_shape",
  "count",
  "is_place",
  "need_places",
  "data_places",
  "kind_of"]
def loL1 : List PySem.Str := ["mark",
  "local_check",
  "over_check",
  "checks",
  "filled",
  "Recipe",
  "unit_fillings",
  "checks_of",
  "ghost_of",
  "recipe_by",
  "recipe",
  "recipes",
  "_law_purse",
  "_law_drawn",
  "_law_shape",
  "_law_filled",
  "_law_whole",
  "_law_same",
  "_law_units",
  "_law_right",
  "_law_recipe",
  "_law_alone"]
def loL : List PySem.Str := loL0 ++ (loL1)
abbrev RR : PySem.W.OpenRow := PySem.W.OpenLaw.row PySem.Challenge.rw_sherdhall_k14_the_rest_of_a_group
abbrev hkL : PySem.W.Hook := hookS 5 fnL exL
def obL (s : PySem.W.SharedT) : AlS := obsSG 5 fnL exL (HandSHeadRun.getT s)
theorem obL_eq (s : PySem.W.SharedT) : obL s = hkL.obs s.abs := obsSG_eq (HandSHeadRun.getT_eq s)
set_option maxHeartbeats 0 in
theorem runL (w : World) : HandSHeadRun.RunEq RR (PySem.W.view RR.prog [53]) hkL obL 40000 loL w := by
  intro os
  kernel_rfl
/-! ### behind the head -/
/-- a shape's numbers -/
def ShOk (g s u : Int) : Prop := (1 ≤ g ∧ g ≤ 4) ∧ (1 ≤ s ∧ s ≤ 4) ∧ (0 ≤ u ∧ u ≤ 2)
abbrev shD (g s u : Int) : D := .tup [.int g, .int s, .int u]
/-- things that are handed in -/
def plainK : D → Bool
  | .non => true
  | .bl _ => true
  | .int _ => true
  | .str _ => true
  | .lst _ => true
  | .tup _ => true
  | .dct _ => true
  | _ => false
def isI : D → Bool
  | .int _ => true
  | _ => false
def isNum : D → Bool
  | .int i => decide (0 ≤ i) && decide (i < 97)
  | _ => false
def toI : D → Int
  | .int i => i
  | _ => 0
/-- what may be handed in -/
def plainF : D → Prop
  | .lst xs => xs.length ≤ 100000 ∧ ∀ x ∈ xs, plainK x = true
  | d => plainK d = true
theorem ShOk.nat {g s u : Nat} (h : ShOk g s u) : (1 ≤ g ∧ g ≤ 4) ∧ (1 ≤ s ∧ s ≤ 4) ∧ u ≤ 2 := by
  obtain ⟨⟨a, b⟩, ⟨c, d⟩, e, f⟩ := h
  omega
theorem ShOk.many {g s u : Nat} (h : ShOk g s u) : g * (s + 1) + u ≤ 22 ∧ 2 ≤ g * (s + 1) + u := by
  obtain ⟨⟨a, b⟩, ⟨c, d⟩, f⟩ := h.nat
  have q : g * (s + 1) ≤ 4 * 5 := Nat.mul_le_mul b (by omega)
  have q2 : 1 * 2 ≤ g * (s + 1) := Nat.mul_le_mul a (by omega)
  omega
theorem shD_inj {g s u g' s' u' : Nat} (h : shD g s u = shD g' s' u') : g = g' ∧ s = s' ∧ u = u' := by
  injection h with h
  injection h with h1 h
  injection h with h2 h
  injection h with h3 h
  injection h1 with h1
  injection h2 with h2
  injection h3 with h3
  omega

abbrev iL (ns : List Int) : List D := ns.map D.int
theorem getD_iL {ns : List Int} {i : Nat} (h : i < ns.length) : (iL ns).getD i .non = .int (ns.getD i 0) := by
  rw [List.getD_eq_getElem?_getD, List.getD_eq_getElem?_getD, List.getElem?_map, List.getElem?_eq_getElem h]
  rfl
theorem iL_inj {ns ms : List Int} (h : iL ns = iL ms) : ns = ms := by
  induction ns generalizing ms with
  | nil =>
    cases ms with
    | nil => rfl
    | cons m ms => cases h
  | cons n ns ih =>
    cases ms with
    | nil => cases h
    | cons m ms =>
      injection h with h1 h2
      injection h1 with h1
      rw [h1, ih h2]
theorem iL_app (ns ms : List Int) : iL (ns ++ ms) = iL ns ++ iL ms := List.map_append
theorem iL_len (ns : List Int) : (iL ns).length = ns.length := List.length_map ..
theorem pair_eq (a c x y : Int) : D.eq (.tup [.int a, .int c]) (.tup [.int x, .int y]) = (decide (a = x) && decide (c = y)) := by
  simp [D.eq, D.py, D.pyA, PyData.eqv, PyData.eqvAll, Bool.beq_eq_decide_eq]
theorem atI_iL {ms : List Int} {k : Nat} (hk : k < ms.length) : L2.atI (iL ms) (k : Int) = some (.int (ms.getD k 0)) := by
  refine atI_nn (by omega) ?_
  rw [Int.toNat_natCast]
  show (ms.map D.int)[k]? = _
  rw [List.getElem?_map, List.getD_eq_getElem?_getD, List.getElem?_eq_getElem hk]
  rfl

theorem map_getD (ns : List Int) : (List.range ns.length).map (fun i => ns.getD i 0) = ns := by
  apply List.ext_getElem
  · simp
  · intro i h1 h2
    rw [List.getElem_map, List.getElem_range, List.getD_eq_getElem?_getD, List.getElem?_eq_getElem h2]
    rfl
theorem lc_filter (q : Int → Bool) (ns : List Int) : ((List.range ns.length).filter fun i => q (ns.getD i 0)).map (fun i => D.int (ns.getD i 0)) = iL (ns.filter q) := by
  have e : ns.filter q = ((List.range ns.length).map fun i => ns.getD i 0).filter q := by rw [map_getD]
  rw [e, List.filter_map, iL, List.map_map]
  rfl
theorem eq_nil (ns : List Int) : D.eq (.lst (iL ns)) (.lst []) = decide (ns = []) := by
  cases ns with
  | nil => simp [D.eq, D.py, D.pyA, PyData.eqv, PyData.eqvAll]
  | cons n ns => simp [D.eq, D.py, D.pyA, PyData.eqv, PyData.eqvAll]
theorem shpL_iL (n : Nat) : ∀ ns : List Int, D.shpA n (iL ns) = true
  | [] => by simp [D.shpA]
  | m :: ns => by
    show (D.shp n (.int m) && D.shpA n (iL ns)) = true
    rw [shpL_iL n ns]
    simp [D.shp]
theorem shp_iL (n : Nat) : ∀ ns : List Int, D.shpA n (iL ns) = true
  | [] => by simp [D.shpA]
  | m :: ns => by
    show (D.shp n (.int m) && D.shpA n (iL ns)) = true
    rw [shp_iL n ns]
    simp [D.shp]
theorem shp_lst (ns : List Int) : D.shp 64 (.lst (iL ns)) = true := shp_iL 63 ns
theorem eq_iLA : ∀ ns : List Int, PyData.eqvAll (D.pyA (iL ns)) (D.pyA (iL ns)) = true
  | [] => by simp [D.pyA, PyData.eqvAll]
  | m :: ns => by
    show PyData.eqvAll (D.py (.int m) :: D.pyA (iL ns)) (D.py (.int m) :: D.pyA (iL ns)) = true
    simp only [PyData.eqvAll, eq_iLA ns, Bool.and_true]
    simp [D.py, PyData.eqv]
theorem eq_iL (ns : List Int) : D.eq (.lst (iL ns)) (.lst (iL ns)) = true := by
  simp only [D.eq, D.py, PyData.eqv]
  exact eq_iLA ns
theorem eq_iLm (ns ms : List Int) : D.eq (.lst (iL ns)) (.lst (iL ms)) = decide (ns = ms) := by
  have main : ∀ ns ms : List Int, PyData.eqvAll (D.pyA (iL ns)) (D.pyA (iL ms)) = decide (ns = ms) := by
    intro ns
    induction ns with
    | nil =>
      intro ms
      cases ms with
      | nil => simp [D.pyA, PyData.eqvAll]
      | cons m ms => simp [D.pyA, PyData.eqvAll]
    | cons n ns ih =>
      intro ms
      cases ms with
      | nil => simp [D.pyA, PyData.eqvAll]
      | cons m ms =>
        show PyData.eqvAll (D.py (.int n) :: D.pyA (iL ns)) (D.py (.int m) :: D.pyA (iL ms)) = _
        simp only [PyData.eqvAll, ih ms]
        have e : PyData.eqv (D.py (.int n)) (D.py (.int m)) = decide (n = m) := eq_int n m
        rw [e]
        by_cases h : n = m
        · subst h; simp
        · simp [h]
  simp only [D.eq, D.py, PyData.eqv]
  exact main ns ms

/-! sums -/
def sm : Nat → (Nat → Int) → Int
  | 0, _ => 0
  | n + 1, f => sm n f + f n
theorem sm_congr {f g : Nat → Int} : ∀ {n : Nat}, (∀ i, i < n → f i = g i) → sm n f = sm n g
  | 0, _ => rfl
  | n + 1, h => by
    show sm n f + f n = sm n g + g n
    rw [sm_congr fun i hi => h i (Nat.lt_succ_of_lt hi), h n (Nat.lt_succ_self n)]
theorem sm_add (m : Nat) (f : Nat → Int) : ∀ n : Nat, sm (m + n) f = sm m f + sm n (fun i => f (m + i))
  | 0 => by show sm m f = sm m f + 0; omega
  | n + 1 => by
    show sm (m + n) f + f (m + n) = sm m f + (sm n (fun i => f (m + i)) + f (m + n))
    rw [sm_add m f n, Int.add_assoc]
theorem sm_zero {f : Nat → Int} : ∀ {n : Nat}, (∀ i, i < n → f i = 0) → sm n f = 0
  | 0, _ => rfl
  | n + 1, h => by
    show sm n f + f n = 0
    rw [sm_zero fun i hi => h i (Nat.lt_succ_of_lt hi), h n (Nat.lt_succ_self n)]
    rfl
theorem sm_mul (b : Nat) (f : Nat → Int) : ∀ a : Nat, sm (a * b) f = sm a (fun i => sm b (fun j => f (i * b + j)))
  | 0 => by rw [Nat.zero_mul]; rfl
  | a + 1 => by
    rw [Nat.add_mul, Nat.one_mul, sm_add, sm_mul b f a]
    rfl
theorem sm_one {f : Nat → Int} {k : Nat} : ∀ {n : Nat}, k < n → (∀ i, i < n → i ≠ k → f i = 0) → sm n f = f k
  | 0, h, _ => absurd h (Nat.not_lt_zero _)
  | n + 1, h, z => by
    show sm n f + f n = f k
    by_cases e : k = n
    · subst e
      rw [sm_zero fun i hi => z i (Nat.lt_succ_of_lt hi) (Nat.ne_of_lt hi), Int.zero_add]
    · rw [sm_one (n := n) (by omega) (fun i hi => z i (Nat.lt_succ_of_lt hi)), z n (Nat.lt_succ_self n) (Ne.symm e), Int.add_zero]
theorem sm_plus (f g : Nat → Int) : ∀ n : Nat, sm n (fun i => f i + g i) = sm n f + sm n g
  | 0 => rfl
  | n + 1 => by
    show sm n (fun i => f i + g i) + (f n + g n) = sm n f + f n + (sm n g + g n)
    rw [sm_plus f g n]; omega
theorem sm_scale (c : Int) (f : Nat → Int) : ∀ n : Nat, sm n (fun i => c * f i) = c * sm n f
  | 0 => by show (0 : Int) = c * 0; rw [Int.mul_zero]
  | n + 1 => by
    show sm n (fun i => c * f i) + c * f n = c * (sm n f + f n)
    rw [sm_scale c f n, Int.mul_add]
theorem sm_mod {f g : Nat → Int} : ∀ {n : Nat}, (∀ i, i < n → f i % 97 = g i % 97) → sm n f % 97 = sm n g % 97
  | 0, _ => rfl
  | n + 1, h => by
    show (sm n f + f n) % 97 = (sm n g + g n) % 97
    have h1 := sm_mod (n := n) fun i hi => h i (Nat.lt_succ_of_lt hi)
    have h2 := h n (Nat.lt_succ_self n)
    omega
theorem sm_range (f : Nat → Int) : ∀ n : Nat, ((List.range n).map f).sum = sm n f
  | 0 => rfl
  | n + 1 => by
    rw [List.range_succ, List.map_append, List.sum_append, sm_range f n]
    show sm n f + ([f n].sum) = _
    simp [sm]
theorem sm_list (ns : List Int) : ns.sum = sm ns.length (fun i => ns.getD i 0) := by
  rw [← sm_range]
  congr 1
  apply List.ext_getElem
  · simp
  · intro i h1 h2
    rw [List.getElem_map, List.getElem_range, List.getD_eq_getElem?_getD, List.getElem?_eq_getElem h1]
    rfl
theorem mm97 (a b : Int) : a * b % 97 = (a % 97) * b % 97 := by rw [Int.mul_emod, Int.mul_emod (a % 97) b, Int.emod_emod_of_dvd a (Int.dvd_refl 97)]
def dot (r v : List Int) : Int := sm (min r.length v.length) (fun i => r.getD i 0 * v.getD i 0)
theorem dot_of {r v : List Int} {n : Nat} (h1 : r.length = n) (h2 : v.length = n) : dot r v = sm n (fun i => r.getD i 0 * v.getD i 0) := by
  unfold dot
  rw [h1, h2, Nat.min_self]
theorem getD_mapR (f : Nat → Int) {n i : Nat} (h : i < n) : ((List.range n).map f).getD i 0 = f i := by
  rw [List.getD_eq_getElem?_getD, List.getElem?_map, List.getElem?_eq_getElem (by rw [List.length_range]; exact h), List.getElem_range]
  rfl
theorem getD_set (v : List Int) (p i : Nat) (x : Int) (h : p < v.length) : (v.set p x).getD i 0 = if i = p then x else v.getD i 0 := by
  rw [List.getD_eq_getElem?_getD, List.getD_eq_getElem?_getD]
  by_cases e : i = p
  · subst e
    rw [List.getElem?_set_self h, if_pos rfl]
    rfl
  · rw [List.getElem?_set_ne (Ne.symm e), if_neg e]
theorem dot_set {r v : List Int} {n p : Nat} (x : Int) (h1 : r.length = n) (h2 : v.length = n) (hp : p < n) : dot r (v.set p x) = dot r v + r.getD p 0 * (x - v.getD p 0) := by
  rw [dot_of h1 (by rw [List.length_set]; exact h2), dot_of h1 h2]
  have e : sm n (fun i => r.getD i 0 * (v.set p x).getD i 0) = sm n (fun i => r.getD i 0 * v.getD i 0 + (if i = p then r.getD p 0 * (x - v.getD p 0) else 0)) := sm_congr fun i hi => by
    rw [getD_set v p i x (by omega)]
    by_cases e : i = p
    · subst e
      rw [if_pos rfl, if_pos rfl, Int.mul_sub]; omega
    · rw [if_neg e, if_neg e, Int.add_zero]
  rw [e, sm_plus]
  congr 1
  rw [sm_one (k := p) hp fun i _ z => if_neg z]
  exact if_pos rfl

/-! sums that are 0 at some places, by 97 -/
def invV (a : Int) : Int := 1 * (a ^ 95 % 97) % 97
theorem inv_tab : ∀ k : Fin 97, k.val ≠ 0 → ((k.val : Int) * ((k.val : Int) ^ 95 % 97)) % 97 = 1 := by decide +kernel
theorem inv_mul {a : Int} (h0 : 0 ≤ a) (h1 : a < 97) (h : a ≠ 0) : a * invV a % 97 = 1 := by
  obtain ⟨n, rfl⟩ := Int.eq_ofNat_of_zero_le h0
  have q := inv_tab ⟨n, by omega⟩ (by simpa using h)
  unfold invV
  rw [Int.one_mul, Int.emod_emod_of_dvd _ (Int.dvd_refl 97)]
  exact q
theorem inv_bd (a : Int) : 0 ≤ invV a ∧ invV a < 97 := ⟨Int.emod_nonneg _ (by decide), Int.emod_lt_of_pos _ (by decide)⟩
/-- a row of n numbers by 97 -/
def RowN (n : Nat) (r : List Int) : Prop := r.length = n ∧ ∀ x ∈ r, 0 ≤ x ∧ x < 97
theorem RowN.at {n : Nat} {r : List Int} (h : RowN n r) (p : Nat) : 0 ≤ r.getD p 0 ∧ r.getD p 0 < 97 := by
  rw [List.getD_eq_getElem?_getD]
  cases e : r[p]? with
  | none => exact ⟨by decide, by decide⟩
  | some x => exact h.2 x (List.mem_of_getElem? e)
def lessV (r o : List Int) (f : Int) : List Int := (List.range (min r.length o.length)).map fun i => (r.getD i 0 - f * o.getD i 0) % 97
theorem less_row {n : Nat} {r o : List Int} {f : Int} (h1 : r.length = n) (h2 : o.length = n) : RowN n (lessV r o f) := by
  refine ⟨by simp [lessV, h1, h2], fun x hx => ?_⟩
  obtain ⟨i, _, rfl⟩ := List.mem_map.mp hx
  exact ⟨Int.emod_nonneg _ (by decide), Int.emod_lt_of_pos _ (by decide)⟩
theorem less_at {n : Nat} {r o : List Int} {f : Int} (h1 : r.length = n) (h2 : o.length = n) (p : Nat) : (lessV r o f).getD p 0 = (r.getD p 0 - f * o.getD p 0) % 97 := by
  by_cases hp : p < n
  · unfold lessV
    exact getD_mapR _ (by omega)
  · have z : ∀ l : List Int, l.length ≤ p → l.getD p 0 = 0 := fun l hl => by
      rw [List.getD_eq_getElem?_getD, List.getElem?_eq_none hl]; rfl
    rw [z _ (by rw [(less_row (f := f) h1 h2).1]; omega), z r (by omega), z o (by omega)]
    simp
def pivI (rows : List (List Int)) (p : Nat) : Option Nat := rows.findIdx? fun r => decide (r.getD p 0 ≠ 0)
def clrV (rows : List (List Int)) (p : Nat) : List (List Int) := match pivI rows p with
  | none => rows
  | some k => (rows.take k ++ rows.drop (k + 1)).map fun o => lessV o (rows.getD k []) (o.getD p 0 * invV ((rows.getD k []).getD p 0))
def rowAtV (rows : List (List Int)) (p : Nat) : Option (List Int) := rows.find? fun r => decide (r.getD p 0 ≠ 0)
theorem piv_some {rows : List (List Int)} {p k : Nat} (h : pivI rows p = some k) : ∃ hk : k < rows.length, rows[k].getD p 0 ≠ 0 ∧ rows.getD k [] = rows[k] := by
  unfold pivI at h
  obtain ⟨hk, h1, _⟩ := List.findIdx?_eq_some_iff_getElem.mp h
  refine ⟨hk, by simpa using h1, ?_⟩
  rw [List.getD_eq_getElem?_getD, List.getElem?_eq_getElem hk]; rfl
theorem piv_none {rows : List (List Int)} {p : Nat} (h : pivI rows p = none) : ∀ r ∈ rows, r.getD p 0 = 0 := fun r hr => by
  unfold pivI at h
  have := List.findIdx?_eq_none_iff.mp h r hr
  simpa using this
/-- what is true of rows and stays true of their sums -/
theorem clr_all {rows : List (List Int)} {p n : Nat} {Pr : List Int → Prop} (hr : ∀ r ∈ rows, RowN n r ∧ Pr r) (hl : ∀ r o f, RowN n r → RowN n o → Pr r → Pr o → Pr (lessV r o f)) : ∀ r ∈ clrV rows p, RowN n r ∧ Pr r := by
  unfold clrV
  cases e : pivI rows p with
  | none => exact hr
  | some k =>
    obtain ⟨hk, _, e2⟩ := piv_some e
    intro r h
    obtain ⟨o, ho, rfl⟩ := List.mem_map.mp h
    have ho' : o ∈ rows := by
      rcases List.mem_append.mp ho with z | z
      · exact List.mem_of_mem_take z
      · exact List.mem_of_mem_drop z
    have hp : rows.getD k [] ∈ rows := by rw [e2]; exact List.getElem_mem hk
    exact ⟨less_row (hr o ho').1.1 (hr _ hp).1.1, hl _ _ _ (hr o ho').1 (hr _ hp).1 (hr o ho').2 (hr _ hp).2⟩
theorem clr_rows {rows : List (List Int)} {p n : Nat} (hr : ∀ r ∈ rows, RowN n r) : ∀ r ∈ clrV rows p, RowN n r := fun r h =>
  (clr_all (Pr := fun _ => True) (fun r hr' => ⟨hr r hr', trivial⟩) (fun _ _ _ _ _ _ _ => trivial) r h).1
theorem clr_zero {rows : List (List Int)} {p n : Nat} (hr : ∀ r ∈ rows, RowN n r) : ∀ r ∈ clrV rows p, r.getD p 0 = 0 := by
  unfold clrV
  cases e : pivI rows p with
  | none => exact piv_none e
  | some k =>
    obtain ⟨hk, hne, e2⟩ := piv_some e
    intro r h
    obtain ⟨o, ho, rfl⟩ := List.mem_map.mp h
    have ho' : o ∈ rows := by
      rcases List.mem_append.mp ho with z | z
      · exact List.mem_of_mem_take z
      · exact List.mem_of_mem_drop z
    have hp : rows.getD k [] ∈ rows := by rw [e2]; exact List.getElem_mem hk
    rw [less_at (hr o ho').1 (hr _ hp).1]
    have hb := (hr _ hp).at p
    have hi := inv_mul hb.1 hb.2 (by rw [e2]; exact hne)
    generalize (rows.getD k []).getD p 0 = a at *
    generalize o.getD p 0 = c
    have h2 : (c - c * invV a * a) % 97 = (c - c * (a * invV a)) % 97 := by rw [Int.mul_assoc, Int.mul_comm (invV a) a]
    rw [h2]
    have h3 : a * invV a = 1 + 97 * (a * invV a / 97) := by omega
    rw [h3, Int.mul_add, Int.mul_one]
    rw [show c * (97 * (a * invV a / 97)) = 97 * (c * (a * invV a / 97)) by rw [← Int.mul_assoc, Int.mul_comm c 97, Int.mul_assoc]]
    omega
theorem clr_len {rows : List (List Int)} {p : Nat} : (clrV rows p).length ≤ rows.length := by
  unfold clrV
  cases e : pivI rows p with
  | none => exact Nat.le_refl _
  | some k => simp; omega
/-- all of the places, one after the other -/
def clrL (rows : List (List Int)) (ps : List Nat) : List (List Int) := ps.foldl clrV rows
theorem clrL_all {n : Nat} {Pr : List Int → Prop} (hl : ∀ r o f, RowN n r → RowN n o → Pr r → Pr o → Pr (lessV r o f)) : ∀ {ps : List Nat} {rows : List (List Int)}, (∀ r ∈ rows, RowN n r ∧ Pr r) → ∀ r ∈ clrL rows ps, RowN n r ∧ Pr r
  | [], _, h => h
  | p :: ps, _, h => clrL_all hl (ps := ps) (clr_all h hl)
theorem zero_less {n q : Nat} : ∀ r o f, RowN n r → RowN n o → r.getD q 0 = 0 → o.getD q 0 = 0 → (lessV r o f).getD q 0 = 0 := fun r o f h1 h2 h3 h4 => by
  rw [less_at h1.1 h2.1, h3, h4]; simp
theorem clrL_zero {n : Nat} {q : Nat} : ∀ {ps : List Nat} {rows : List (List Int)}, (∀ r ∈ rows, RowN n r) → q ∈ ps → ∀ r ∈ clrL rows ps, r.getD q 0 = 0
  | [], _, _, hq => by cases hq
  | p :: ps, rows, h, hq => by
    rcases List.mem_cons.mp hq with rfl | hq
    · intro r hr
      exact (clrL_all (n := n) (Pr := fun r => r.getD q 0 = 0) zero_less (ps := ps) (rows := clrV rows q) (fun r hr => ⟨clr_rows h r hr, clr_zero h r hr⟩) r hr).2
    · exact clrL_zero (ps := ps) (clr_rows h) hq
def sdot (n : Nat) (d : Nat → Int) (r : List Int) : Int := sm n fun p => d p * r.getD p 0
theorem sdot_less {n : Nat} {d : Nat → Int} {r o : List Int} {f : Int} (h1 : r.length = n) (h2 : o.length = n) : sdot n d (lessV r o f) % 97 = (sdot n d r - f * sdot n d o) % 97 := by
  have e : sdot n d (lessV r o f) % 97 = sm n (fun p => d p * r.getD p 0 + (-f) * (d p * o.getD p 0)) % 97 := sm_mod fun i hi => by
    rw [less_at h1 h2, Int.mul_comm, ← mm97, Int.mul_comm, Int.mul_sub]
    congr 1
    rw [Int.neg_mul, ← Int.mul_assoc, ← Int.mul_assoc, Int.mul_comm (d i) f]
    omega
  rw [e, sm_plus, sm_scale]
  unfold sdot
  rw [Int.neg_mul, Int.sub_eq_add_neg]
theorem sdot_add {n p : Nat} {d : Nat → Int} {t : Int} {r : List Int} (hp : p < n) : sdot n (fun q => d q + if q = p then t else 0) r = sdot n d r + t * r.getD p 0 := by
  unfold sdot
  have e : sm n (fun q => (d q + if q = p then t else 0) * r.getD q 0) = sm n (fun q => d q * r.getD q 0 + (if q = p then t * r.getD p 0 else 0)) := sm_congr fun i hi => by
    by_cases h : i = p
    · subst h; rw [if_pos rfl, if_pos rfl, Int.add_mul]
    · rw [if_neg h, if_neg h, Int.add_zero, Int.add_zero]
  rw [e, sm_plus, sm_one (k := p) hp fun i _ z => if_neg z, if_pos rfl]
/-- THE LEMMA: where all the rows that are left over are 0 at w, the column w is told by the others -/
theorem col_rel {n w : Nat} (hw : w < n) : ∀ {ps : List Nat} {rows : List (List Int)}, (∀ r ∈ rows, RowN n r) → w ∉ ps → (∀ p ∈ ps, p < n) → (∀ r ∈ clrL rows ps, r.getD w 0 = 0) →
    ∃ d : Nat → Int, (∀ q, q ∉ ps → q ≠ w → d q = 0) ∧ d w = 1 ∧ ∀ r ∈ rows, sdot n d r % 97 = 0
  | [], rows, h, _, _, hz => ⟨fun q => if q = w then 1 else 0, fun q _ hq => if_neg hq, if_pos rfl, fun r hr => by
    unfold sdot
    rw [sm_one (k := w) hw fun i _ z => by show (if i = w then (1 : Int) else 0) * _ = 0; rw [if_neg z, Int.zero_mul]]
    show (if w = w then (1 : Int) else 0) * _ % 97 = 0
    rw [if_pos rfl, show r.getD w 0 = 0 from hz r hr]; rfl⟩
  | p :: ps, rows, h, hn, hb, hz => by
    have hpw : w ≠ p := fun z => hn (by rw [z]; exact List.mem_cons_self)
    have hp : p < n := hb p List.mem_cons_self
    obtain ⟨d, d1, d2, d3⟩ := col_rel hw (ps := ps) (rows := clrV rows p) (clr_rows h) (fun z => hn (List.mem_cons_of_mem _ z)) (fun q hq => hb q (List.mem_cons_of_mem _ hq)) hz
    cases e : pivI rows p with
    | none =>
      refine ⟨d, fun q h1 h2 => d1 q (fun z => h1 (List.mem_cons_of_mem _ z)) h2, d2, fun r hr => d3 r ?_⟩
      unfold clrV; rw [e]; exact hr
    | some k =>
      obtain ⟨hk, hne, e2⟩ := piv_some e
      have hrow : RowN n (rows.getD k []) := by rw [e2]; exact h _ (List.getElem_mem hk)
      have hb0 := hrow.at p
      have hinv := inv_mul hb0.1 hb0.2 (by rw [e2]; exact hne)
      generalize hR : rows.getD k [] = R at *
      generalize ha : R.getD p 0 = a at *
      refine ⟨fun q => d q + if q = p then -(sdot n d R * invV a) else 0, fun q h1 h2 => ?_, ?_, fun r hr => ?_⟩
      · show d q + (if q = p then _ else 0) = 0
        rw [if_neg fun z => h1 (by rw [z]; exact List.mem_cons_self), d1 q (fun z => h1 (List.mem_cons_of_mem _ z)) h2]; rfl
      · show d w + (if w = p then _ else 0) = 1
        rw [if_neg hpw, d2]; rfl
      · rw [sdot_add hp]
        obtain ⟨j, hj, rfl⟩ := List.getElem_of_mem hr
        obtain ⟨m, hm⟩ : ∃ m, a * invV a = 1 + 97 * m := ⟨a * invV a / 97, by omega⟩
        by_cases hjk : j = k
        · subst hjk
          rw [← e2, ha]
          have e4 : sdot n d R + -(sdot n d R * invV a) * a = -(97 * (sdot n d R * m)) := by
            rw [Int.neg_mul, Int.mul_assoc, Int.mul_comm (invV a) a, hm, Int.mul_add, Int.mul_one, ← Int.mul_assoc, Int.mul_comm _ 97, Int.mul_assoc]
            omega
          rw [e4]; omega
        · have hin : rows[j] ∈ rows.take k ++ rows.drop (k + 1) := by
            by_cases hlt : j < k
            · exact List.mem_append_left _ (List.mem_iff_getElem.mpr ⟨j, by rw [List.length_take]; omega, by rw [List.getElem_take]⟩)
            · exact List.mem_append_right _ (List.mem_iff_getElem.mpr ⟨j - (k + 1), by rw [List.length_drop]; omega, by rw [List.getElem_drop]; congr 1; omega⟩)
          have hcl : lessV rows[j] R (rows[j].getD p 0 * invV a) ∈ clrV rows p := by
            unfold clrV; rw [e]
            exact List.mem_map.mpr ⟨rows[j], hin, by rw [hR, ha]⟩
          have q := d3 _ hcl
          rw [sdot_less (h _ hr).1 hrow.1] at q
          have e5 : -(sdot n d R * invV a) * rows[j].getD p 0 = -(rows[j].getD p 0 * invV a * sdot n d R) := by
            rw [Int.neg_mul, Int.mul_comm (rows[j].getD p 0 * invV a), Int.mul_comm (rows[j].getD p 0), Int.mul_assoc]
          rw [e5]
          rw [Int.sub_eq_add_neg] at q
          exact q
/-! ### recipes -/
def backV (r : List Int) (w : Nat) : Int := 96 * (r.getD w 0 ^ 95 % 97) % 97
def readsN (r : List Int) (w : Nat) : List Nat := (List.range r.length).filter fun p => decide (r.getD p 0 ≠ 0) && decide (p ≠ w)
def readsV (r : List Int) (w : Nat) : List Int := (readsN r w).map fun (p : Nat) => (p : Int)
def facsV (r : List Int) (w : Nat) : List Int := (readsN r w).map fun p => backV r w * r.getD p 0 % 97
theorem sum_filter (q : Nat → Bool) (f : Nat → Int) : ∀ n : Nat, (((List.range n).filter q).map f).sum = sm n fun p => if q p = true then f p else 0
  | 0 => rfl
  | n + 1 => by
    rw [List.range_succ, List.filter_append, List.map_append, List.sum_append, sum_filter q f n]
    show _ + _ = sm n _ + _
    congr 1
    by_cases h : q n = true
    · simp [h]
    · simp [h]
theorem back_eq {r : List Int} {w n : Nat} (hr : RowN n r) (hw : r.getD w 0 ≠ 0) : ∃ m, backV r w * r.getD w 0 = 96 + 97 * m := by
  have hb := hr.at w
  have hi := inv_mul hb.1 hb.2 hw
  unfold invV at hi
  rw [Int.one_mul, Int.emod_emod_of_dvd _ (Int.dvd_refl 97)] at hi
  unfold backV
  generalize r.getD w 0 ^ 95 % 97 = c at *
  generalize r.getD w 0 = a at *
  have e : 96 * c % 97 = 96 * c - 97 * (96 * c / 97) := by omega
  obtain ⟨k, hk⟩ : ∃ k, a * c = 1 + 97 * k := ⟨a * c / 97, by omega⟩
  refine ⟨96 * k - 96 * c / 97 * a, ?_⟩
  rw [e, Int.sub_mul, Int.mul_assoc 96 c a, Int.mul_comm c a, hk, Int.mul_assoc 97 _ a, Int.mul_add, Int.mul_sub]
  omega
theorem rec_right {n w : Nat} {r v : List Int} (hr : RowN n r) (hw : w < n) (hne : r.getD w 0 ≠ 0) (h0 : sdot n (fun p => v.getD p 0) r % 97 = 0) :
    ((readsN r w).map fun p => (backV r w * r.getD p 0 % 97) * v.getD p 0).sum % 97 = v.getD w 0 % 97 := by
  unfold readsN
  rw [hr.1, sum_filter]
  have e1 : sm n (fun p => if (decide (r.getD p 0 ≠ 0) && decide (p ≠ w)) = true then (backV r w * r.getD p 0 % 97) * v.getD p 0 else 0) % 97 = sm n (fun p => backV r w * (v.getD p 0 * r.getD p 0) + (if p = w then -(backV r w * r.getD w 0 * v.getD w 0) else 0)) % 97 := sm_mod fun p hp => by
    by_cases h1 : p = w
    · subst h1
      rw [if_neg (by simp : ¬ (decide (r.getD p 0 ≠ 0) && decide (p ≠ p)) = true), if_pos rfl, Int.mul_comm (v.getD p 0), ← Int.mul_assoc, Int.add_right_neg]
    · rw [if_neg h1, Int.add_zero]
      by_cases h2 : r.getD p 0 = 0
      · rw [h2]; simp
      · rw [if_pos (by simp [h1]; simpa [List.getD_eq_getElem?_getD] using h2), ← mm97, Int.mul_comm (v.getD p 0), Int.mul_assoc]
  rw [e1, sm_plus, sm_scale, sm_one (k := w) hw fun i _ z => if_neg z, if_pos rfl]
  obtain ⟨m, hm⟩ := back_eq hr hne
  obtain ⟨k, hk⟩ : ∃ k, sm n (fun p => v.getD p 0 * r.getD p 0) = 97 * k := ⟨sm n (fun p => v.getD p 0 * r.getD p 0) / 97, by
    have h0' : sm n (fun p => v.getD p 0 * r.getD p 0) % 97 = 0 := h0
    omega⟩
  rw [hk, hm]
  generalize v.getD w 0 = x
  rw [Int.add_mul, Int.mul_assoc 97 m x, ← Int.mul_assoc (backV r w), Int.mul_comm (backV r w) 97, Int.mul_assoc]
  omega
theorem facs_bd {n w : Nat} {r : List Int} (hr : RowN n r) (hne : r.getD w 0 ≠ 0) : ∀ f ∈ facsV r w, 1 ≤ f ∧ f ≤ 96 := fun f hf => by
  obtain ⟨p, hp, rfl⟩ := List.mem_map.mp hf
  have hq := (List.mem_filter.mp hp).2
  simp only [Bool.and_eq_true, decide_eq_true_eq] at hq
  have hb := hr.at p
  have h1 : 0 ≤ backV r w * r.getD p 0 % 97 ∧ backV r w * r.getD p 0 % 97 < 97 := ⟨Int.emod_nonneg _ (by decide), Int.emod_lt_of_pos _ (by decide)⟩
  refine ⟨?_, by omega⟩
  refine Classical.byContradiction fun z => ?_
  have z0 : backV r w * r.getD p 0 % 97 = 0 := by omega
  obtain ⟨m, hm⟩ := back_eq hr hne
  have hi := inv_mul hb.1 hb.2 hq.1
  generalize r.getD p 0 = a at *
  generalize r.getD w 0 = c at *
  generalize backV r w = k at *
  obtain ⟨x, hx⟩ : ∃ x, k * a = 97 * x := ⟨k * a / 97, by omega⟩
  obtain ⟨y, hy⟩ : ∃ y, a * invV a = 1 + 97 * y := ⟨a * invV a / 97, by omega⟩
  have e : k * c * (a * invV a) = k * a * (c * invV a) := by
    rw [Int.mul_assoc, Int.mul_assoc, ← Int.mul_assoc c a, Int.mul_comm c a, Int.mul_assoc a c]
  rw [hm, hy, hx, Int.mul_add, Int.mul_one, Int.mul_assoc 97 x, ← Int.mul_assoc (96 + 97 * m) 97 y, Int.mul_comm (96 + 97 * m) 97, Int.mul_assoc 97 (96 + 97 * m) y] at e
  omega
theorem reads_up (r : List Int) (w : Nat) : (readsN r w).Pairwise (· < ·) := (List.pairwise_lt_range).filter _
theorem reads_mem {r : List Int} {w p : Nat} : p ∈ readsN r w ↔ p < r.length ∧ r.getD p 0 ≠ 0 ∧ p ≠ w := by
  unfold readsN
  rw [List.mem_filter, List.mem_range]
  simp

abbrev rL (rs : List (List Int)) : List D := rs.map fun r => .lst (iL r)
theorem rL_len (rs : List (List Int)) : (rL rs).length = rs.length := List.length_map ..
theorem getD_rL {rs : List (List Int)} {i : Nat} (h : i < rs.length) : (rL rs).getD i .non = .lst (iL (rs.getD i [])) := by
  rw [List.getD_eq_getElem?_getD, List.getD_eq_getElem?_getD, List.getElem?_map, List.getElem?_eq_getElem h]
  rfl
theorem sIx_nat {n d k : Nat} : HT.sIx n d (some (k : Int)) = min k n := by
  show (if (k : Int) < 0 then ((k : Int) + n).toNat else min (k : Int).toNat n) = _
  rw [if_neg (by omega), Int.toNat_natCast]
theorem slcTo {xs : List D} (k : Nat) : slcD xs none (some (k : Int)) = xs.take k := by
  unfold slcD
  rw [sIx_nat]
  show (xs.drop 0).take (min k xs.length - 0) = _
  rw [List.drop_zero, Nat.sub_zero]
  rcases Nat.le_total k xs.length with h | h
  · rw [Nat.min_eq_left h]
  · rw [Nat.min_eq_right h, List.take_of_length_le (Nat.le_refl _), List.take_of_length_le h]
theorem slcFrom {xs : List D} (k : Nat) : slcD xs (some (k : Int)) none = xs.drop k := by
  unfold slcD
  rw [sIx_nat]
  show (xs.drop (min k xs.length)).take (xs.length - min k xs.length) = _
  rcases Nat.le_total k xs.length with h | h
  · rw [Nat.min_eq_left h, List.take_of_length_le (by rw [List.length_drop]; omega)]
  · rw [Nat.min_eq_right h, List.drop_eq_nil_of_le (Nat.le_refl _), List.drop_eq_nil_of_le h]; simp
theorem rL_inj {a b : List (List Int)} (h : rL a = rL b) : a = b := by
  induction a generalizing b with
  | nil =>
    cases b with
    | nil => rfl
    | cons m ms => cases h
  | cons n ns ih =>
    cases b with
    | nil => cases h
    | cons m ms =>
      injection h with h1 h2
      injection h1 with h1
      rw [iL_inj h1, ih h2]
theorem getD_row {rs : List (List Int)} {i : Nat} (h : i < rs.length) : rs.getD i [] = rs[i] := by
  rw [List.getD_eq_getElem?_getD, List.getElem?_eq_getElem h]; rfl

/-! any thing handed in as a shape -/
def plainT : D → Prop
  | .tup xs => xs.length ≤ 100000 ∧ ∀ x ∈ xs, plainK x = true
  | d => plainK d = true
def shB (g s u : Int) : Bool := (decide (1 ≤ g) && decide (g ≤ 4)) && ((decide (1 ≤ s) && decide (s ≤ 4)) && (decide (0 ≤ u) && decide (u ≤ 2)))
def isShape : D → Bool
  | .tup [.int g, .int s, .int u] => shB g s u
  | _ => false
theorem shB_iff {g s u : Int} : shB g s u = true ↔ ShOk g s u := by
  unfold shB ShOk
  simp [Bool.and_eq_true]
theorem isShape_ok {g s u : Int} (h : ShOk g s u) : isShape (shD g s u) = true := shB_iff.mpr h
theorem isShape_inv {d : D} (h : isShape d = true) : ∃ g s u : Nat, d = shD g s u ∧ ShOk g s u := by
  unfold isShape at h
  split at h
  · rename_i g s u
    have q := shB_iff.mp h
    obtain ⟨⟨a, b⟩, ⟨c, d⟩, e, f⟩ := id q
    obtain ⟨g', rfl⟩ := Int.eq_ofNat_of_zero_le (show 0 ≤ g by omega)
    obtain ⟨s', rfl⟩ := Int.eq_ofNat_of_zero_le (show 0 ≤ s by omega)
    obtain ⟨u', rfl⟩ := Int.eq_ofNat_of_zero_le e
    exact ⟨g', s', u', rfl, q⟩
  · cases h
theorem plainT_sh (g s u : Int) : plainT (shD g s u) := ⟨by show 3 ≤ 100000; decide, fun x hx => by
  rcases List.mem_cons.mp hx with rfl | hx
  · rfl
  · rcases List.mem_cons.mp hx with rfl | hx
    · rfl
    · rw [List.mem_singleton.mp hx]; rfl⟩
/-- is it a place of the shape -/
def isPl (g s u : Int) : D → Bool
  | .int i => decide (0 ≤ i) && decide (i < g * (s + 1) + u)
  | _ => false
/-- refused: no shape -/
def exS (C : Addr) (d : D) (X : Addr) (fs : List (Str × D)) : Prop := isShape d = false ∧ X = C ∧ fs = [(("shape" : Str), d)]
def exP (C : Addr) (t : D) (X : Addr) (fs : List (Str × D)) : Prop := X = C ∧ fs = [(("place" : Str), t)]
theorem exS_no {C X : Addr} {fs : List (Str × D)} {g s u : Int} (h : ShOk g s u) : ¬ exS C (shD g s u) X fs := fun z => by
  rw [exS, isShape_ok h] at z
  cases z.1

/-! the places of a row's numbers -/
/-- the places of data -/
def dataP (g s : Nat) : List Int := (List.range g).flatMap fun (i : Nat) => (List.range s).map fun (j : Nat) => (i : Int) * ((s : Int) + 1) + (j : Int)
theorem dataP_len' (g s : Nat) : (dataP g s).length = g * s := by
  unfold dataP
  rw [List.length_flatMap]
  have e : (List.range g).map (fun (i : Nat) => ((List.range s).map fun (j : Nat) => (i : Int) * ((s : Int) + 1) + (j : Int)).length) = List.replicate g s := by
    apply List.ext_getElem
    · simp
    · intro i h1 h2
      simp
  rw [e, List.sum_replicate_nat]
theorem dataP_up : ∀ (g s : Nat), (dataP g s).Pairwise (· < ·) ∧ ∀ p ∈ dataP g s, 0 ≤ p ∧ p < (g : Int) * ((s : Int) + 1)
  | 0, s => by simp [dataP]
  | g + 1, s => by
    obtain ⟨h1, h2⟩ := dataP_up g s
    have e : dataP (g + 1) s = dataP g s ++ (List.range s).map fun (j : Nat) => (g : Int) * ((s : Int) + 1) + (j : Int) := by
      unfold dataP
      rw [List.range_succ, List.flatMap_append]
      simp
    have g0 : (0 : Int) ≤ (g : Int) * ((s : Int) + 1) := Int.mul_nonneg (by omega) (by omega)
    have e1 : ((g + 1 : Nat) : Int) * ((s : Int) + 1) = (g : Int) * ((s : Int) + 1) + ((s : Int) + 1) := by push_cast; rw [Int.add_mul, Int.one_mul]
    rw [e]
    refine ⟨List.pairwise_append.mpr ⟨h1, ?_, fun a ha c hc => ?_⟩, fun p hp => ?_⟩
    · refine List.pairwise_map.mpr (List.pairwise_lt_range.imp fun h => ?_)
      omega
    · obtain ⟨j, _, rfl⟩ := List.mem_map.mp hc
      have := (h2 a ha).2
      omega
    · rw [e1]
      rcases List.mem_append.mp hp with hp | hp
      · have := h2 p hp
        omega
      · obtain ⟨j, hj, rfl⟩ := List.mem_map.mp hp
        have := List.mem_range.mp hj
        omega
/-- the place of a number of a row -/
def spotI (g s : Nat) (m : Int) : Int := (dataP g s).getD (m % ((g : Int) * (s : Int))).toNat 0
/-- the places of the numbers from m up to n, rising -/
def needV (g s : Nat) (m n : Int) : List Int := (dataP g s).filter fun p => (List.range (n - m).toNat).any fun (i : Nat) => decide (spotI g s (m + i) = p)
theorem spot_mem {g s : Nat} (g0 : 1 ≤ g) (s0 : 1 ≤ s) (m : Int) : spotI g s m ∈ dataP g s ∧ (m % ((g : Int) * (s : Int))).toNat < (dataP g s).length := by
  have w0 : 0 < (g : Int) * (s : Int) := Int.mul_pos (by omega) (by omega)
  have a := Int.emod_nonneg m (show (g : Int) * (s : Int) ≠ 0 by omega)
  have b := Int.emod_lt_of_pos m w0
  have hl : (m % ((g : Int) * (s : Int))).toNat < (dataP g s).length := by
    rw [dataP_len']
    have e : ((g * s : Nat) : Int) = (g : Int) * (s : Int) := by push_cast; rfl
    omega
  refine ⟨?_, hl⟩
  unfold spotI
  rw [List.getD_eq_getElem?_getD, List.getElem?_eq_getElem hl]
  exact List.getElem_mem hl
theorem need_up (g s : Nat) (m n : Int) : (needV g s m n).Pairwise (· < ·) := (dataP_up g s).1.filter _
theorem need_mem {g s : Nat} (g0 : 1 ≤ g) (s0 : 1 ≤ s) {m n k : Int} : k ∈ needV g s m n ↔ ∃ i : Nat, i < (n - m).toNat ∧ spotI g s (m + i) = k := by
  unfold needV
  rw [List.mem_filter, List.any_eq_true]
  refine ⟨fun ⟨_, i, hi, h⟩ => ⟨i, List.mem_range.mp hi, of_decide_eq_true h⟩, fun ⟨i, hi, h⟩ => ⟨?_, i, List.mem_range.mpr hi, decide_eq_true h⟩⟩
  rw [← h]
  exact (spot_mem g0 s0 _).1
theorem need_len {g s : Nat} {m n : Int} : (needV g s m n).length ≤ g * s := by
  rw [← dataP_len' g s]
  exact List.length_filter_le _ _
def isDt (s p : Nat) : Bool := !decide (p % (s + 1) = s)
theorem spots_all (s : Nat) : ∀ g : Nat, ((List.range (g * (s + 1))).filter (isDt s)).map (fun (p : Nat) => D.int p) = iL (dataP g s)
  | 0 => by simp [dataP, iL]
  | g + 1 => by
    have e : dataP (g + 1) s = dataP g s ++ (List.range s).map fun (j : Nat) => (g : Int) * ((s : Int) + 1) + (j : Int) := by
      unfold dataP
      rw [List.range_succ, List.flatMap_append]
      simp
    rw [Nat.add_mul, Nat.one_mul, List.range_add, List.filter_append, List.map_append, spots_all s g, e]
    unfold iL
    rw [List.map_append]
    congr 1
    rw [List.range_succ, List.map_append, List.filter_append, List.map_append]
    have md : ∀ j, j < s + 1 → (g * (s + 1) + j) % (s + 1) = j := fun j hj => by rw [Nat.mul_comm, Nat.mul_add_mod, Nat.mod_eq_of_lt hj]
    have e1 : ((List.range s).map (g * (s + 1) + ·)).filter (isDt s) = (List.range s).map (g * (s + 1) + ·) := List.filter_eq_self.mpr fun p hp => by
      obtain ⟨j, hj, rfl⟩ := List.mem_map.mp hp
      have hj := List.mem_range.mp hj
      unfold isDt
      rw [md j (by omega), decide_eq_false (show ¬ j = s by omega)]; rfl
    have e2 : ([s].map (g * (s + 1) + ·)).filter (isDt s) = [] := by
      have : isDt s (g * (s + 1) + s) = false := by
        unfold isDt
        rw [md s (by omega), decide_eq_true rfl]; rfl
      simp [this]
    rw [e1, e2, List.map_nil, List.append_nil, List.map_map, List.map_map]
    refine List.map_congr_left fun j hj => ?_
    show D.int ((g * (s + 1) + j : Nat) : Int) = D.int _
    congr 1

/-! the checks of a shape -/
def many (g s u : Nat) : Nat := g * (s + 1) + u
def sgn (i j : Nat) : Int := [1, 11, 40, 30].getD i 0 + (j : Int)
def locF (s k p : Nat) : Int := if p / (s + 1) = k then (if p % (s + 1) = s then 96 else 1) else 0
def ovF (g s n p : Nat) : Int := if p < g * (s + 1) then (if p % (s + 1) = s then 0 else (sgn (p / (s + 1)) (p % (s + 1))) ^ n % 97) else if p + 1 = g * (s + 1) + n then 96 else 0
def locR (g s u k : Nat) : List Int := (List.range (many g s u)).map (locF s k)
def ovR (g s u n : Nat) : List Int := (List.range (many g s u)).map (ovF g s n)
def rowsV (g s u : Nat) : List (List Int) := (List.range g).map (locR g s u) ++ (List.range u).map (fun n => ovR g s u (n + 1))
theorem dv (k b j : Nat) (h : j < b) : (k * b + j) / b = k := by
  rw [Nat.add_comm, Nat.add_mul_div_right _ _ (by omega), Nat.div_eq_of_lt h, Nat.zero_add]
theorem md (k b j : Nat) (h : j < b) : (k * b + j) % b = j := by
  rw [Nat.add_comm, Nat.add_mul_mod_self_right, Nat.mod_eq_of_lt h]
theorem blk_lt {i g b j : Nat} (hi : i < g) (hj : j < b) : i * b + j < g * b := by
  have h : (i + 1) * b ≤ g * b := Nat.mul_le_mul_right b hi
  rw [Nat.add_mul, Nat.one_mul] at h
  omega
theorem loc_dot (g s u k : Nat) (v : Nat → Int) (hk : k < g) : sm (many g s u) (fun p => locF s k p * v p) = sm s (fun j => v (k * (s + 1) + j)) + 96 * v (k * (s + 1) + s) := by
  unfold many
  rw [sm_add, sm_mul]
  have h2 : sm u (fun i => locF s k (g * (s + 1) + i) * v (g * (s + 1) + i)) = 0 := sm_zero fun i _ => by
    unfold locF
    rw [if_neg, Int.zero_mul]
    intro z
    have q : g ≤ (g * (s + 1) + i) / (s + 1) := by
      rw [Nat.le_div_iff_mul_le (by omega)]; omega
    omega
  rw [h2, Int.add_zero, sm_one (k := k) hk fun i hi hik => sm_zero fun j hj => by
    unfold locF
    rw [dv i (s + 1) j hj, if_neg hik, Int.zero_mul]]
  show sm s _ + locF s k (k * (s + 1) + s) * v (k * (s + 1) + s) = _
  congr 1
  · refine sm_congr fun j hj => ?_
    unfold locF
    rw [dv k (s + 1) j (by omega), md k (s + 1) j (by omega), if_pos rfl, if_neg (by omega), Int.one_mul]
  · unfold locF
    rw [dv k (s + 1) s (by omega), md k (s + 1) s (by omega), if_pos rfl, if_pos rfl]
theorem ov_dot (g s u n : Nat) (v : Nat → Int) (hn : n < u) : sm (many g s u) (fun p => ovF g s (n + 1) p * v p) = sm g (fun i => sm s (fun j => (sgn i j ^ (n + 1) % 97) * v (i * (s + 1) + j))) + 96 * v (g * (s + 1) + n) := by
  unfold many
  rw [sm_add, sm_mul]
  congr 1
  · refine sm_congr fun i hi => ?_
    show sm s _ + ovF g s (n + 1) (i * (s + 1) + s) * v (i * (s + 1) + s) = _
    have e : ovF g s (n + 1) (i * (s + 1) + s) * v (i * (s + 1) + s) = 0 := by
      unfold ovF
      rw [if_pos (blk_lt hi (by omega)), md i (s + 1) s (by omega), if_pos rfl, Int.zero_mul]
    rw [e, Int.add_zero]
    refine sm_congr fun j hj => ?_
    unfold ovF
    rw [if_pos (blk_lt hi (by omega)), md i (s + 1) j (by omega), dv i (s + 1) j (by omega), if_neg (by omega)]
  · rw [sm_one (k := n) hn fun i hi hin => by
      unfold ovF
      rw [if_neg (by omega), if_neg (by omega), Int.zero_mul]]
    unfold ovF
    rw [if_neg (by omega), if_pos (by omega)]
theorem locR_len (g s u k : Nat) : (locR g s u k).length = many g s u := by simp [locR]
theorem ovR_len (g s u k : Nat) : (ovR g s u k).length = many g s u := by simp [ovR]
theorem rows_len {g s u : Nat} {r : List Int} (h : r ∈ rowsV g s u) : r.length = many g s u := by
  unfold rowsV at h
  rcases List.mem_append.mp h with h | h
  · obtain ⟨k, _, rfl⟩ := List.mem_map.mp h; exact locR_len ..
  · obtain ⟨k, _, rfl⟩ := List.mem_map.mp h; exact ovR_len ..
theorem dot_loc {g s u k : Nat} {v : List Int} (hv : v.length = many g s u) (hk : k < g) : dot (locR g s u k) v = sm s (fun j => v.getD (k * (s + 1) + j) 0) + 96 * v.getD (k * (s + 1) + s) 0 := by
  rw [dot_of (locR_len ..) hv, ← loc_dot g s u k (fun p => v.getD p 0) hk]
  exact sm_congr fun i hi => by rw [locR, getD_mapR _ hi]
theorem dot_ov {g s u n : Nat} {v : List Int} (hv : v.length = many g s u) (hn : n < u) : dot (ovR g s u (n + 1)) v = sm g (fun i => sm s (fun j => (sgn i j ^ (n + 1) % 97) * v.getD (i * (s + 1) + j) 0)) + 96 * v.getD (g * (s + 1) + n) 0 := by
  rw [dot_of (ovR_len ..) hv, ← ov_dot g s u n (fun p => v.getD p 0) hn]
  exact sm_congr fun i hi => by rw [ovR, getD_mapR _ hi]
/-- v keeps all checks -/
def keepsV (g s u : Nat) (v : List Int) : Bool := (rowsV g s u).all fun r => decide (dot r v % 97 = 0)
theorem keeps_iff {g s u : Nat} {v : List Int} : keepsV g s u v = true ↔ (∀ k, k < g → dot (locR g s u k) v % 97 = 0) ∧ ∀ n, n < u → dot (ovR g s u (n + 1)) v % 97 = 0 := by
  unfold keepsV rowsV
  rw [List.all_append, Bool.and_eq_true, List.all_eq_true, List.all_eq_true]
  constructor
  · rintro ⟨h1, h2⟩
    exact ⟨fun k hk => of_decide_eq_true (h1 _ (List.mem_map_of_mem (List.mem_range.mpr hk))), fun n hn => of_decide_eq_true (h2 _ (List.mem_map.mpr ⟨n, List.mem_range.mpr hn, rfl⟩))⟩
  · rintro ⟨h1, h2⟩
    refine ⟨fun r hr => ?_, fun r hr => ?_⟩
    · obtain ⟨k, hk, rfl⟩ := List.mem_map.mp hr
      exact decide_eq_true (h1 k (List.mem_range.mp hk))
    · obtain ⟨k, hk, rfl⟩ := List.mem_map.mp hr
      exact decide_eq_true (h2 k (List.mem_range.mp hk))
/-! what the data fix -/
def fillF (g s : Nat) (dt : Nat → Int) (p : Nat) : Int := if p < g * (s + 1) then (if p % (s + 1) = s then sm s (fun j => dt (p / (s + 1) * s + j)) % 97 else dt (p / (s + 1) * s + p % (s + 1))) else sm g (fun i => sm s (fun j => sgn i j ^ (p - g * (s + 1) + 1) * dt (i * s + j))) % 97
def fillV (g s u : Nat) (data : List Int) : List Int := (List.range (many g s u)).map (fillF g s fun i => data.getD i 0)
theorem fillV_len (g s u : Nat) (data : List Int) : (fillV g s u data).length = many g s u := by simp [fillV]
theorem fill_data {g s : Nat} {dt : Nat → Int} {i j : Nat} (hi : i < g) (hj : j < s) : fillF g s dt (i * (s + 1) + j) = dt (i * s + j) := by
  unfold fillF
  rw [if_pos (blk_lt hi (by omega)), md i (s + 1) j (by omega), dv i (s + 1) j (by omega), if_neg (by omega)]
theorem fill_loc {g s : Nat} {dt : Nat → Int} {i : Nat} (hi : i < g) : fillF g s dt (i * (s + 1) + s) = sm s (fun j => dt (i * s + j)) % 97 := by
  unfold fillF
  rw [if_pos (blk_lt hi (by omega)), md i (s + 1) s (by omega), dv i (s + 1) s (by omega), if_pos rfl]
theorem fill_ov {g s : Nat} {dt : Nat → Int} {n : Nat} : fillF g s dt (g * (s + 1) + n) = sm g (fun i => sm s (fun j => sgn i j ^ (n + 1) * dt (i * s + j))) % 97 := by
  unfold fillF
  rw [if_neg (by omega), show g * (s + 1) + n - g * (s + 1) = n by omega]
theorem keeps_fill (g s u : Nat) (data : List Int) : keepsV g s u (fillV g s u data) = true := by
  have at_ : ∀ p, p < many g s u → (fillV g s u data).getD p 0 = fillF g s (fun i => data.getD i 0) p := fun p hp => getD_mapR _ hp
  rw [keeps_iff]
  refine ⟨fun k hk => ?_, fun n hn => ?_⟩
  · rw [dot_loc (fillV_len ..) hk]
    have hb := blk_lt (b := s + 1) hk (show s < s + 1 by omega)
    have e : sm s (fun j => (fillV g s u data).getD (k * (s + 1) + j) 0) = sm s (fun j => data.getD (k * s + j) 0) := sm_congr fun j hj => by
      rw [at_ _ (by unfold many; omega), fill_data hk hj]
    rw [e, at_ _ (by unfold many; omega), fill_loc hk]
    omega
  · rw [dot_ov (fillV_len ..) hn, at_ _ (by unfold many; omega), fill_ov]
    have e : sm g (fun i => sm s (fun j => (sgn i j ^ (n + 1) % 97) * (fillV g s u data).getD (i * (s + 1) + j) 0)) % 97 = sm g (fun i => sm s (fun j => sgn i j ^ (n + 1) * data.getD (i * s + j) 0)) % 97 := sm_mod fun i hi => sm_mod fun j hj => by
      have hb := blk_lt (b := s + 1) hi (show j < s + 1 by omega)
      rw [at_ _ (by unfold many; omega), fill_data hi hj, ← mm97]
    omega
theorem keeps_lin {g s u : Nat} {a b : List Int} {f : Int} (ha : keepsV g s u a = true) (hb : keepsV g s u b = true) (la : a.length = many g s u) (lb : b.length = many g s u) :
    keepsV g s u ((List.range (many g s u)).map fun j => (a.getD j 0 + f * b.getD j 0) % 97) = true := by
  unfold keepsV at ha hb ⊢
  rw [List.all_eq_true] at ha hb ⊢
  intro r hr
  have h1 := of_decide_eq_true (ha r hr)
  have h2 := of_decide_eq_true (hb r hr)
  have lr := rows_len hr
  rw [dot_of lr la] at h1
  rw [dot_of lr lb] at h2
  apply decide_eq_true
  rw [dot_of lr (by simp)]
  have e : sm (many g s u) (fun i => r.getD i 0 * ((List.range (many g s u)).map fun j => (a.getD j 0 + f * b.getD j 0) % 97).getD i 0) % 97 = sm (many g s u) (fun i => r.getD i 0 * a.getD i 0 + f * (r.getD i 0 * b.getD i 0)) % 97 := sm_mod fun i hi => by
    rw [getD_mapR _ hi, Int.mul_comm, ← mm97, Int.mul_comm, Int.mul_add]
    congr 2
    rw [← Int.mul_assoc, Int.mul_comm (r.getD i 0) f, Int.mul_assoc]
  rw [e, sm_plus, sm_scale]
  obtain ⟨c, hc⟩ := Int.dvd_of_emod_eq_zero h2
  rw [hc, ← Int.mul_assoc, Int.mul_comm f, Int.mul_assoc]
  omega
theorem keeps_zero (g s u : Nat) : keepsV g s u (List.replicate (many g s u) 0) = true := by
  unfold keepsV
  rw [List.all_eq_true]
  intro r hr
  apply decide_eq_true
  rw [dot_of (rows_len hr) (by simp), sm_zero fun i hi => ?_]
  · rfl
  · rw [List.getD_eq_getElem?_getD, List.getD_eq_getElem?_getD, List.getElem?_replicate_of_lt hi]
    exact Int.mul_zero _
/-- at each place a check sees -/
theorem row_at {g s u p : Nat} (hp : p < many g s u) : ∃ r ∈ rowsV g s u, r.getD p 0 = 1 ∨ r.getD p 0 = 96 := by
  by_cases h : p < g * (s + 1)
  · refine ⟨locR g s u (p / (s + 1)), List.mem_append_left _ (List.mem_map_of_mem (List.mem_range.mpr ?_)), ?_⟩
    · rw [Nat.div_lt_iff_lt_mul (by omega)]; exact h
    · rw [locR, getD_mapR _ hp]
      unfold locF
      rw [if_pos rfl]
      split
      · exact .inr rfl
      · exact .inl rfl
  · refine ⟨ovR g s u (p - g * (s + 1) + 1), List.mem_append_right _ (List.mem_map.mpr ⟨p - g * (s + 1), List.mem_range.mpr (by unfold many at hp; omega), rfl⟩), .inr ?_⟩
    rw [ovR, getD_mapR _ hp]
    unfold ovF
    rw [if_neg h, if_pos (by omega)]
theorem keeps_one {g s u p : Nat} {v : List Int} {x : Int} (h : keepsV g s u v = true) (hv : v.length = many g s u) (hp : p < many g s u) (hx : x % 97 ≠ v.getD p 0 % 97) : keepsV g s u (v.set p x) = false := by
  obtain ⟨r, hr, he⟩ := row_at hp
  unfold keepsV at h ⊢
  rw [List.all_eq_true] at h
  rw [List.all_eq_false]
  refine ⟨r, hr, ?_⟩
  have h1 := of_decide_eq_true (h r hr)
  have h2 := dot_set x (rows_len hr) hv hp
  simp only [decide_eq_true_eq]
  rw [h2]
  rcases he with he | he
  · rw [he]; omega
  · rw [he]; omega
theorem sgn_bd (i j : Nat) (h : j < 4) : (sgn i j).natAbs < 2 ^ 6 := by
  unfold sgn
  match i with
  | 0 => show ((1 : Int) + j).natAbs < _; omega
  | 1 => show ((11 : Int) + j).natAbs < _; omega
  | 2 => show ((40 : Int) + j).natAbs < _; omega
  | 3 => show ((30 : Int) + j).natAbs < _; omega
  | i + 4 => show ((0 : Int) + j).natAbs < _; omega

/-! the data of a filling; what the data fix -/
def dataOf (g s : Nat) (v : List Int) : List Int := ((List.range (g * (s + 1))).filter fun p => decide (p % (s + 1) ≠ s)).map fun p => v.getD p 0
def blocks (g s : Nat) (f : Nat → Nat → Int) : List Int := (List.range g).flatMap fun i => (List.range s).map (f i)
theorem blocks_step (g s : Nat) (f : Nat → Nat → Int) : blocks (g + 1) s f = blocks g s f ++ (List.range s).map (f g) := by
  unfold blocks
  rw [List.range_succ, List.flatMap_append]
  simp
theorem blocks_len (s : Nat) (f : Nat → Nat → Int) : ∀ g, (blocks g s f).length = g * s
  | 0 => by simp [blocks]
  | g + 1 => by rw [blocks_step, List.length_append, blocks_len s f g, List.length_map, List.length_range, Nat.add_mul, Nat.one_mul]
theorem blocks_at {s : Nat} {f : Nat → Nat → Int} {i j : Nat} (hj : j < s) : ∀ {g : Nat}, i < g → (blocks g s f).getD (i * s + j) 0 = f i j
  | 0, h => absurd h (Nat.not_lt_zero _)
  | g + 1, h => by
    rw [blocks_step, List.getD_eq_getElem?_getD]
    by_cases e : i < g
    · rw [List.getElem?_append_left (by rw [blocks_len]; exact blk_lt e hj), ← List.getD_eq_getElem?_getD, blocks_at hj e]
    · have e : i = g := by omega
      subst e
      rw [List.getElem?_append_right (by rw [blocks_len]; omega), blocks_len, show i * s + j - i * s = j by omega, ← List.getD_eq_getElem?_getD]
      exact getD_mapR _ hj
theorem dataOf_blocks (s : Nat) (v : List Int) : ∀ g, dataOf g s v = blocks g s fun i j => v.getD (i * (s + 1) + j) 0
  | 0 => by simp [dataOf, blocks]
  | g + 1 => by
    rw [blocks_step, ← dataOf_blocks s v g]
    unfold dataOf
    rw [Nat.add_mul, Nat.one_mul, List.range_add, List.filter_append, List.map_append]
    congr 1
    rw [List.range_succ, List.map_append, List.filter_append, List.map_append]
    have e1 : ((List.range s).map fun x => g * (s + 1) + x).filter (fun p => decide (p % (s + 1) ≠ s)) = (List.range s).map fun x => g * (s + 1) + x := by
      rw [List.filter_eq_self]
      intro p hp
      obtain ⟨j, hj, rfl⟩ := List.mem_map.mp hp
      have hj := List.mem_range.mp hj
      rw [md g (s + 1) j (by omega)]
      exact decide_eq_true (by omega)
    have e2 : (([s] : List Nat).map fun x => g * (s + 1) + x).filter (fun p => decide (p % (s + 1) ≠ s)) = [] := by
      show ([g * (s + 1) + s] : List Nat).filter _ = []
      rw [List.filter_cons_of_neg (by rw [md g (s + 1) s (by omega)]; simp)]
      rfl
    rw [e1, e2, List.map_map]
    simp
theorem dataOf_len (g s : Nat) (v : List Int) : (dataOf g s v).length = g * s := by rw [dataOf_blocks, blocks_len]
theorem place_of {g s p : Nat} (h : p < g * (s + 1)) : ∃ i j, i < g ∧ j < s + 1 ∧ p = i * (s + 1) + j := by
  refine ⟨p / (s + 1), p % (s + 1), (Nat.div_lt_iff_lt_mul (by omega)).mpr h, Nat.mod_lt _ (by omega), ?_⟩
  have q := Nat.div_add_mod p (s + 1)
  rw [Nat.mul_comm] at q
  exact q.symm
theorem keeps_eq {g s u : Nat} {v : List Int} (hv : v.length = many g s u) (hb : ∀ x ∈ v, 0 ≤ x ∧ x < 97) : keepsV g s u v = decide (fillV g s u (dataOf g s v) = v) := by
  have bd : ∀ p, 0 ≤ v.getD p 0 ∧ v.getD p 0 < 97 := fun p => by
    rw [List.getD_eq_getElem?_getD]
    cases e : v[p]? with
    | none => exact ⟨by decide, by decide⟩
    | some n => exact hb n (List.mem_of_getElem? e)
  have dt : ∀ i j, i < g → j < s → (dataOf g s v).getD (i * s + j) 0 = v.getD (i * (s + 1) + j) 0 := fun i j hi hj => by rw [dataOf_blocks, blocks_at hj hi]
  have atv : ∀ p, p < many g s u → (fillV g s u (dataOf g s v)).getD p 0 = fillF g s (fun i => (dataOf g s v).getD i 0) p := fun p hp => getD_mapR _ hp
  rw [Bool.eq_iff_iff, decide_eq_true_iff]
  constructor
  · intro h
    obtain ⟨h1, h2⟩ := keeps_iff.mp h
    apply List.ext_getElem
    · rw [fillV_len, hv]
    · intro p hp hp2
      have hpm : p < many g s u := by rw [fillV_len] at hp; exact hp
      have g1 : (fillV g s u (dataOf g s v))[p] = (fillV g s u (dataOf g s v)).getD p 0 := by rw [List.getD_eq_getElem?_getD, List.getElem?_eq_getElem hp]; rfl
      have g2 : v[p] = v.getD p 0 := by rw [List.getD_eq_getElem?_getD, List.getElem?_eq_getElem hp2]; rfl
      rw [g1, g2, atv p hpm]
      by_cases c : p < g * (s + 1)
      · obtain ⟨i, j, hi, hj, rfl⟩ := place_of c
        by_cases cj : j < s
        · rw [fill_data hi cj, dt i j hi cj]
        · have ej : j = s := by omega
          subst ej
          rw [fill_loc hi]
          have q := h1 i hi
          rw [dot_loc hv hi] at q
          have e : sm j (fun k => (dataOf g j v).getD (i * j + k) 0) = sm j (fun k => v.getD (i * (j + 1) + k) 0) := sm_congr fun k hk => dt i k hi hk
          rw [e]
          have := bd (i * (j + 1) + j)
          omega
      · obtain ⟨n, rfl⟩ := Nat.exists_eq_add_of_le (Nat.le_of_not_lt c)
        have hn : n < u := by unfold many at hpm; omega
        rw [fill_ov]
        have q := h2 n hn
        rw [dot_ov hv hn] at q
        have e : sm g (fun i => sm s (fun j => sgn i j ^ (n + 1) * (dataOf g s v).getD (i * s + j) 0)) % 97 = sm g (fun i => sm s (fun j => (sgn i j ^ (n + 1) % 97) * v.getD (i * (s + 1) + j) 0)) % 97 := sm_mod fun i hi => sm_mod fun j hj => by
          rw [dt i j hi hj, ← mm97]
        rw [e]
        have := bd (g * (s + 1) + n)
        omega
  · intro h
    have k := keeps_fill g s u (dataOf g s v)
    rw [h] at k
    exact k

theorem getD_bdF {v : List Int} (h : ∀ x ∈ v, 0 ≤ x ∧ x < 97) (i : Nat) : 0 ≤ v.getD i 0 ∧ v.getD i 0 < 97 := by
  rw [List.getD_eq_getElem?_getD]
  cases e : v[i]? with
  | none => exact ⟨by decide, by decide⟩
  | some n => exact h n (List.mem_of_getElem? e)
theorem fillV_bdF {g s u : Nat} {data : List Int} (h : ∀ x ∈ data, 0 ≤ x ∧ x < 97) : ∀ x ∈ fillV g s u data, 0 ≤ x ∧ x < 97 := by
  intro x hx
  obtain ⟨p, _, rfl⟩ := List.mem_map.mp hx
  unfold fillF
  split
  · split
    · exact ⟨Int.emod_nonneg _ (by decide), Int.emod_lt_of_pos _ (by decide)⟩
    · exact getD_bdF h _
  · exact ⟨Int.emod_nonneg _ (by decide), Int.emod_lt_of_pos _ (by decide)⟩

/-! recipes and ghosts of a shape -/
theorem sm_comm (f : Nat → Nat → Int) (m : Nat) : ∀ n : Nat, sm n (fun i => sm m (fun j => f i j)) = sm m (fun j => sm n (fun i => f i j))
  | 0 => by
    show (0 : Int) = _
    rw [sm_zero]
    intro i _; rfl
  | n + 1 => by
    show sm n _ + sm m _ = sm m (fun j => sm n (fun i => f i j) + f n j)
    rw [sm_comm f m n, sm_plus]
def unitF (k i : Nat) : Int := if i = k then 1 else 0
def unitD (w k : Nat) : List Int := (List.range w).map fun i => if i = k then 1 else 0
def unitsV (g s u : Nat) : List (List Int) := (List.range (g * s)).map fun k => fillV g s u (unitD (g * s) k)
theorem unitD_at (w k i : Nat) (h : i < w) : (unitD w k).getD i 0 = unitF k i := getD_mapR _ h
theorem sum_unit {w : Nat} (dt : Nat → Int) {i : Nat} (h : i < w) : sm w (fun k => dt k * unitF k i) = dt i := by
  rw [sm_one (k := i) h fun k _ z => by unfold unitF; rw [if_neg (Ne.symm z), Int.mul_zero]]
  unfold unitF
  rw [if_pos rfl, Int.mul_one]
theorem sm_mulR (c : Int) (f : Nat → Int) (n : Nat) : sm n (fun i => f i * c) = sm n f * c := by
  have := sm_scale c f n
  rw [Int.mul_comm (sm n f) c, ← this]
  exact sm_congr fun i _ => Int.mul_comm _ _
theorem fillF_congr {g s : Nat} {a b : Nat → Int} {p u : Nat} (hp : p < many g s u) (h : ∀ i, i < g * s → a i = b i) : fillF g s a p = fillF g s b p := by
  by_cases c : p < g * (s + 1)
  · obtain ⟨i, j, hi, hj, rfl⟩ := place_of c
    by_cases cj : j < s
    · rw [fill_data hi cj, fill_data hi cj, h _ (blk_lt hi cj)]
    · have : j = s := by omega
      subst this
      rw [fill_loc hi, fill_loc hi]
      congr 1
      exact sm_congr fun k hk => h _ (blk_lt hi hk)
  · obtain ⟨n, rfl⟩ := Nat.exists_eq_add_of_le (Nat.le_of_not_lt c)
    rw [fill_ov, fill_ov]
    congr 1
    exact sm_congr fun i hi => sm_congr fun j hj => by rw [h _ (blk_lt hi hj)]
/-- a filling is the sum of its data numbers' units -/
theorem fill_units {g s u p : Nat} (dt : Nat → Int) (hp : p < many g s u) : fillF g s dt p % 97 = sm (g * s) (fun k => dt k * fillF g s (unitF k) p) % 97 := by
  by_cases c : p < g * (s + 1)
  · obtain ⟨i, j, hi, hj, rfl⟩ := place_of c
    by_cases cj : j < s
    · rw [fill_data hi cj, sm_congr (g := fun k => dt k * unitF k (i * s + j)) fun k _ => by rw [fill_data hi cj], sum_unit dt (blk_lt hi cj)]
    · have : j = s := by omega
      subst this
      rw [fill_loc hi, Int.emod_emod_of_dvd _ (Int.dvd_refl 97)]
      have e : sm (g * j) (fun k => dt k * fillF g j (unitF k) (i * (j + 1) + j)) % 97 = sm (g * j) (fun k => sm j (fun x => dt k * unitF k (i * j + x))) % 97 := sm_mod fun k hk => by
        rw [fill_loc hi, Int.mul_comm, ← mm97, Int.mul_comm, sm_scale]
      rw [e, sm_comm]
      congr 1
      exact sm_congr fun x hx => (sum_unit dt (blk_lt hi hx)).symm
  · obtain ⟨n, rfl⟩ := Nat.exists_eq_add_of_le (Nat.le_of_not_lt c)
    rw [fill_ov, Int.emod_emod_of_dvd _ (Int.dvd_refl 97)]
    have e : sm (g * s) (fun k => dt k * fillF g s (unitF k) (g * (s + 1) + n)) % 97 = sm (g * s) (fun k => sm g (fun i => sm s (fun j => dt k * (sgn i j ^ (n + 1) * unitF k (i * s + j))))) % 97 := sm_mod fun k hk => by
      rw [fill_ov, Int.mul_comm, ← mm97, Int.mul_comm, ← sm_scale]
      congr 1
      exact sm_congr fun i _ => (sm_scale ..).symm
    rw [e, sm_comm (fun k i => sm s fun j => dt k * (sgn i j ^ (n + 1) * unitF k (i * s + j))) g (g * s)]
    congr 1
    refine sm_congr fun i hi => ?_
    rw [sm_comm (fun k j => dt k * (sgn i j ^ (n + 1) * unitF k (i * s + j))) s (g * s)]
    refine sm_congr fun j hj => ?_
    rw [sm_congr (g := fun k => sgn i j ^ (n + 1) * (dt k * unitF k (i * s + j))) fun k _ => by rw [← Int.mul_assoc, Int.mul_comm (dt k), Int.mul_assoc], sm_scale, sum_unit dt (blk_lt hi hj)]
theorem sgn_nn (i j : Nat) : 0 ≤ sgn i j := by
  unfold sgn
  match i with
  | 0 => show (0 : Int) ≤ 1 + j; omega
  | 1 => show (0 : Int) ≤ 11 + j; omega
  | 2 => show (0 : Int) ≤ 40 + j; omega
  | 3 => show (0 : Int) ≤ 30 + j; omega
  | i + 4 => show (0 : Int) ≤ 0 + j; omega
theorem rows_RowN {g s u : Nat} : ∀ r ∈ rowsV g s u, RowN (many g s u) r := fun r hr => by
  refine ⟨rows_len hr, fun x hx => ?_⟩
  unfold rowsV at hr
  rcases List.mem_append.mp hr with h | h
  · obtain ⟨k, _, rfl⟩ := List.mem_map.mp h
    obtain ⟨p, _, rfl⟩ := List.mem_map.mp hx
    unfold locF
    split
    · split <;> decide
    · decide
  · obtain ⟨k, _, rfl⟩ := List.mem_map.mp h
    obtain ⟨p, _, rfl⟩ := List.mem_map.mp hx
    unfold ovF
    split
    · split
      · decide
      · exact ⟨Int.emod_nonneg _ (by decide), Int.emod_lt_of_pos _ (by decide)⟩
    · split <;> decide
theorem unit_bd (w k : Nat) : ∀ x ∈ unitD w k, 0 ≤ x ∧ x < 97 := fun x hx => by
  obtain ⟨i, _, rfl⟩ := List.mem_map.mp hx
  show 0 ≤ (if i = k then (1 : Int) else 0) ∧ _
  split <;> decide
theorem fill_RowN {g s u : Nat} {data : List Int} (h : ∀ x ∈ data, 0 ≤ x ∧ x < 97) : RowN (many g s u) (fillV g s u data) := ⟨fillV_len .., fillV_bdF h⟩
theorem units_RowN {g s u : Nat} : ∀ r ∈ unitsV g s u, RowN (many g s u) r := fun r hr => by
  obtain ⟨k, _, rfl⟩ := List.mem_map.mp hr
  exact fill_RowN (unit_bd _ _)
theorem unit_keeps {g s u : Nat} : ∀ r ∈ unitsV g s u, keepsV g s u r = true := fun r hr => by
  obtain ⟨k, _, rfl⟩ := List.mem_map.mp hr
  exact keeps_fill ..
theorem unit_at {g s u k p : Nat} (hk : k < g * s) (hp : p < many g s u) : (fillV g s u (unitD (g * s) k)).getD p 0 = fillF g s (unitF k) p := by
  unfold fillV
  rw [getD_mapR _ hp]
  exact fillF_congr hp fun i hi => unitD_at _ _ _ hi
/-- a number of a place as it stands in a list of places -/
def lostN (m : Nat) (left : List Int) (w : Int) : List Nat := (List.range m).filter fun (p : Nat) => decide ((p : Int) ≠ w) && !decide ((p : Int) ∈ left)
def chkOf (g s u : Nat) (left : List Int) (w : Int) : List (List Int) := clrL (rowsV g s u) (lostN (many g s u) left w)
def ghoOf (g s u : Nat) (left : List Int) : List (List Int) := clrL (unitsV g s u) (left.map Int.toNat)
def recRow (g s u : Nat) (left : List Int) (w : Int) : Option (List Int) := rowAtV (chkOf g s u left w) w.toNat
def ghoRow (g s u : Nat) (left : List Int) (w : Int) : Option (List Int) := rowAtV (ghoOf g s u left) w.toNat
/-- r is orthogonal to v -/
def orth (n : Nat) (r v : List Int) : Prop := sdot n (fun p => v.getD p 0) r % 97 = 0
theorem dot_sdot {n : Nat} {r v : List Int} (h1 : r.length = n) (h2 : v.length = n) : dot r v = sdot n (fun p => v.getD p 0) r := by
  rw [dot_of h1 h2]
  exact sm_congr fun i _ => Int.mul_comm _ _
theorem keeps_orth {g s u : Nat} {v : List Int} (hv : v.length = many g s u) : keepsV g s u v = true ↔ ∀ r ∈ rowsV g s u, orth (many g s u) r v := by
  unfold keepsV orth
  rw [List.all_eq_true]
  exact ⟨fun h r hr => by rw [← dot_sdot (rows_len hr) hv]; exact of_decide_eq_true (h r hr), fun h r hr => decide_eq_true (by rw [dot_sdot (rows_len hr) hv]; exact h r hr)⟩
theorem orth_less {n : Nat} {v : List Int} : ∀ r o f, RowN n r → RowN n o → orth n r v → orth n o v → orth n (lessV r o f) v := fun r o f h1 h2 h3 h4 => by
  unfold orth at *
  rw [sdot_less h1.1 h2.1]
  obtain ⟨k, hk⟩ : ∃ k, sdot n (fun p => v.getD p 0) o = 97 * k := ⟨sdot n (fun p => v.getD p 0) o / 97, by omega⟩
  rw [hk, ← Int.mul_assoc, Int.mul_comm f, Int.mul_assoc]
  omega
theorem mem_lost {m : Nat} {left : List Int} {w : Int} {p : Nat} : p ∈ lostN m left w ↔ p < m ∧ (p : Int) ≠ w ∧ (p : Int) ∉ left := by
  unfold lostN
  rw [List.mem_filter, List.mem_range]
  simp
structure ChkRow (g s u : Nat) (left : List Int) (w : Int) (r : List Int) : Prop where
  row : RowN (many g s u) r
  zero : ∀ p : Nat, p < many g s u → (p : Int) ≠ w → (p : Int) ∉ left → r.getD p 0 = 0
  orth : ∀ v : List Int, v.length = many g s u → keepsV g s u v = true → orth (many g s u) r v
theorem chk_rows {g s u : Nat} {left : List Int} {w : Int} : ∀ r ∈ chkOf g s u left w, ChkRow g s u left w r := fun r hr => by
  refine ⟨(clrL_all (Pr := fun _ => True) (fun _ _ _ _ _ _ _ => trivial) (fun r hr => ⟨rows_RowN r hr, trivial⟩) r hr).1, fun p hp h1 h2 => clrL_zero (fun r hr => rows_RowN r hr) (mem_lost.mpr ⟨hp, h1, h2⟩) r hr, fun v hv hk => ?_⟩
  exact (clrL_all (Pr := fun r => orth (many g s u) r v) orth_less (fun r hr => ⟨rows_RowN r hr, (keeps_orth hv).mp hk r hr⟩) r hr).2
theorem rowAt_some {rows : List (List Int)} {p : Nat} {r : List Int} (h : rowAtV rows p = some r) : r ∈ rows ∧ r.getD p 0 ≠ 0 := by
  unfold rowAtV at h
  exact ⟨List.mem_of_find?_eq_some h, by simpa using List.find?_some h⟩
theorem rowAt_none {rows : List (List Int)} {p : Nat} (h : rowAtV rows p = none) : ∀ r ∈ rows, r.getD p 0 = 0 := fun r hr => by
  unfold rowAtV at h
  have := List.find?_eq_none.mp h r hr
  simpa using this
/-- a ghost: keeps all, 0 at what is left, not 0 at w -/
structure GhoOk (g s u : Nat) (left : List Int) (w : Nat) (v : List Int) : Prop where
  row : RowN (many g s u) v
  keeps : keepsV g s u v = true
  zero : ∀ p ∈ left, v.getD p.toNat 0 = 0
  ne : v.getD w 0 ≠ 0
theorem keep_less {g s u : Nat} : ∀ r o f, RowN (many g s u) r → RowN (many g s u) o → keepsV g s u r = true → keepsV g s u o = true → keepsV g s u (lessV r o f) = true := fun r o f h1 h2 h3 h4 => by
  have hl := less_row (f := f) h1.1 h2.1
  rw [keeps_orth hl.1]
  rw [keeps_orth h1.1] at h3
  rw [keeps_orth h2.1] at h4
  intro c hc
  have q1 := h3 c hc
  have q2 := h4 c hc
  have sw : ∀ v : List Int, sdot (many g s u) (fun p => v.getD p 0) c = sdot (many g s u) (fun p => c.getD p 0) v := fun v => sm_congr fun i _ => Int.mul_comm _ _
  unfold orth at *
  rw [sw] at q1 q2 ⊢
  rw [sdot_less h1.1 h2.1]
  obtain ⟨k, hk⟩ : ∃ k, sdot (many g s u) (fun p => c.getD p 0) o = 97 * k := ⟨sdot (many g s u) (fun p => c.getD p 0) o / 97, by omega⟩
  rw [hk, ← Int.mul_assoc, Int.mul_comm f, Int.mul_assoc]
  omega
theorem gho_ok {g s u w : Nat} {left : List Int} {v : List Int} (hb : ∀ p ∈ left, 0 ≤ p) (h : ghoRow g s u left w = some v) : GhoOk g s u left w v := by
  obtain ⟨h1, h2⟩ := rowAt_some h
  have q := clrL_all (n := many g s u) (Pr := fun r => keepsV g s u r = true) keep_less (fun r hr => ⟨units_RowN r hr, unit_keeps r hr⟩) v h1
  refine ⟨q.1, q.2, fun p hp => clrL_zero (fun r hr => units_RowN r hr) (List.mem_map_of_mem hp) v h1, ?_⟩
  rw [Int.toNat_natCast] at h2
  exact h2
/-- THE TWO: a place that no checks tell has a ghost -/
theorem gho_some {g s u w : Nat} {left : List Int} (hw : w < many g s u) (hb : ∀ p ∈ left, 0 ≤ p ∧ p < many g s u) (hn : (w : Int) ∉ left) (h : recRow g s u left w = none) : ∃ v, ghoRow g s u left w = some v := by
  cases e : ghoRow g s u left w with
  | some v => exact ⟨v, rfl⟩
  | none =>
    have z1 := rowAt_none h
    have z2 := rowAt_none e
    rw [Int.toNat_natCast] at z1 z2
    obtain ⟨d, d1, d2, d3⟩ := col_rel (n := many g s u) hw (ps := lostN (many g s u) left w) (rows := rowsV g s u) rows_RowN (fun z => (mem_lost.mp z).2.1 rfl) (fun p hp => (mem_lost.mp hp).1) z1
    have hnl : w ∉ left.map Int.toNat := fun z => by
      obtain ⟨p, hp, e⟩ := List.mem_map.mp z
      have := hb p hp
      exact hn (by rw [show (w : Int) = p by omega]; exact hp)
    obtain ⟨c, c1, c2, c3⟩ := col_rel (n := many g s u) hw (ps := left.map Int.toNat) (rows := unitsV g s u) units_RowN hnl (fun p hp => by
      obtain ⟨q, hq, e⟩ := List.mem_map.mp hp
      have := hb q hq
      omega) z2
    -- the filling that d is
    let f : List Int := (List.range (many g s u)).map fun p => d p % 97
    have fat : ∀ p, p < many g s u → f.getD p 0 = d p % 97 := fun p hp => getD_mapR _ hp
    have fl : f.length = many g s u := by simp [f]
    have frow : RowN (many g s u) f := ⟨fl, fun x hx => by
      obtain ⟨p, _, rfl⟩ := List.mem_map.mp hx
      exact ⟨Int.emod_nonneg _ (by decide), Int.emod_lt_of_pos _ (by decide)⟩⟩
    have fk : keepsV g s u f = true := by
      rw [keeps_orth fl]
      intro r hr
      have e1 : sdot (many g s u) (fun p => f.getD p 0) r % 97 = sdot (many g s u) d r % 97 := sm_mod fun i hi => by
        show f.getD i 0 * _ % 97 = _
        rw [fat i hi, ← mm97]
      show sdot _ _ _ % 97 = 0
      rw [e1]
      exact d3 r hr
    have ff : fillV g s u (dataOf g s f) = f := by
      have q := keeps_eq fl frow.2
      rw [fk] at q
      exact of_decide_eq_true q.symm
    -- c against it
    have s1 : sm (many g s u) (fun p => c p * f.getD p 0) = c w * f.getD w 0 := sm_one hw fun p hp hpw => by
      by_cases hpl : (p : Int) ∈ left
      · have hd : d p = 0 := d1 p (fun z => (mem_lost.mp z).2.2 hpl) hpw
        rw [fat p hp, hd]; simp
      · have hc : c p = 0 := c1 p (fun z => by
          obtain ⟨q, hq, e⟩ := List.mem_map.mp z
          have := hb q hq
          exact hpl (by rw [show (p : Int) = q by omega]; exact hq)) hpw
        rw [hc, Int.zero_mul]
    have s2 : sm (many g s u) (fun p => c p * f.getD p 0) % 97 = sm (many g s u) (fun p => sm (g * s) (fun k => (dataOf g s f).getD k 0 * (c p * (fillV g s u (unitD (g * s) k)).getD p 0))) % 97 := sm_mod fun p hp => by
      have e1 : f.getD p 0 = fillF g s (fun i => (dataOf g s f).getD i 0) p := by
        conv => lhs; rw [← ff]
        exact getD_mapR _ hp
      have e2 : sm (g * s) (fun k => (dataOf g s f).getD k 0 * (c p * (fillV g s u (unitD (g * s) k)).getD p 0)) = c p * sm (g * s) (fun k => (dataOf g s f).getD k 0 * fillF g s (unitF k) p) := by
        rw [← sm_scale]
        refine sm_congr fun k hk => ?_
        rw [unit_at hk hp, ← Int.mul_assoc, ← Int.mul_assoc, Int.mul_comm (c p)]
      rw [e2, e1, Int.mul_comm, mm97, fill_units (u := u) _ hp, ← mm97, Int.mul_comm]
    rw [sm_comm] at s2
    have s3 : sm (g * s) (fun k => sm (many g s u) (fun p => (dataOf g s f).getD k 0 * (c p * (fillV g s u (unitD (g * s) k)).getD p 0))) % 97 = 0 := by
      have : sm (g * s) (fun k => sm (many g s u) (fun p => (dataOf g s f).getD k 0 * (c p * (fillV g s u (unitD (g * s) k)).getD p 0))) % 97 = sm (g * s) (fun _ => 0) % 97 := sm_mod fun k hk => by
        rw [sm_scale]
        have q : sdot (many g s u) c (fillV g s u (unitD (g * s) k)) % 97 = 0 := c3 _ (List.mem_map_of_mem (List.mem_range.mpr hk))
        have q' : sm (many g s u) (fun p => c p * (fillV g s u (unitD (g * s) k)).getD p 0) % 97 = 0 := q
        rw [Int.mul_comm, mm97, q', Int.zero_mul]
      rw [this, sm_zero fun _ _ => rfl]; rfl
    rw [s3, s1, c2, fat w hw, d2] at s2
    exact absurd s2 (by decide)
theorem places_ints {g s u : Nat} : ∀ {l : List D}, (∀ x ∈ l, isPl g s u x = true) → ∃ li : List Int, l = iL li ∧ ∀ p ∈ li, 0 ≤ p ∧ p < (many g s u : Nat)
  | [], _ => ⟨[], rfl, fun p h => by cases h⟩
  | x :: l, h => by
    obtain ⟨li, e, hb⟩ := places_ints (l := l) fun y hy => h y (List.mem_cons_of_mem _ hy)
    have hx := h x List.mem_cons_self
    cases x with
    | int i =>
      unfold isPl at hx
      simp only [Bool.and_eq_true, decide_eq_true_eq] at hx
      refine ⟨i :: li, by rw [e]; rfl, fun p hp => ?_⟩
      rcases List.mem_cons.mp hp with rfl | hp
      · unfold many
        push_cast
        exact hx
      · exact hb p hp
    | _ => cases hx
theorem isPl_int {g s u : Nat} {p : Int} (h : 0 ≤ p ∧ p < (many g s u : Nat)) : isPl g s u (.int p) = true := by
  unfold isPl
  unfold many at h
  push_cast at h
  simp [h.1, h.2]
theorem clrL_snoc (rows : List (List Int)) (ps : List Nat) (p : Nat) : clrL rows (ps ++ [p]) = clrV (clrL rows ps) p := by
  unfold clrL
  rw [List.foldl_append]; rfl
theorem clrL_rows {n : Nat} {ps : List Nat} {rows : List (List Int)} (h : ∀ r ∈ rows, RowN n r) : ∀ r ∈ clrL rows ps, RowN n r := fun r hr => (clrL_all (Pr := fun _ => True) (fun _ _ _ _ _ _ _ => trivial) (fun r hr => ⟨h r hr, trivial⟩) r hr).1
theorem clrL_len : ∀ {ps : List Nat} {rows : List (List Int)}, (clrL rows ps).length ≤ rows.length
  | [], _ => Nat.le_refl _
  | p :: ps, rows => Nat.le_trans (clrL_len (ps := ps) (rows := clrV rows p)) clr_len

def recD (C : Addr) (w : Int) (r f : List Int) : D := .ins C [(("wanted" : Str), .int w), (("reads" : Str), .lst (iL r)), (("factors" : Str), .lst (iL f))]

mutual
/-- plain data, no deeper than n -/
def sam : Nat → D → Bool
  | _, .non => true
  | _, .bl _ => true
  | _, .int _ => true
  | _, .str s => PyData.canLay0 (.str s)
  | 0, .lst _ => false
  | n + 1, .lst xs => samA n xs && decide (xs.length ≤ 100000)
  | 0, .tup _ => false
  | n + 1, .tup xs => samA n xs && decide (xs.length ≤ 100000)
  | _, _ => false
def samA : Nat → List D → Bool
  | _, [] => true
  | n, x :: xs => sam n x && samA n xs
end
theorem samA_at {n : Nat} {xs : List D} (h : samA n xs = true) {i : Nat} (hi : i < xs.length) : sam n (xs.getD i .non) = true := by
  induction xs generalizing i with
  | nil => cases hi
  | cons x xs ih =>
    simp only [samA, Bool.and_eq_true] at h
    cases i with
    | zero => exact h.1
    | succ i => exact ih h.2 (Nat.lt_of_succ_lt_succ hi)
theorem samA_of {n : Nat} : ∀ {xs : List D}, (∀ x ∈ xs, sam n x = true) → samA n xs = true
  | [], _ => by simp [samA]
  | x :: xs, h => by
    simp only [samA, Bool.and_eq_true]
    exact ⟨h x List.mem_cons_self, samA_of fun y hy => h y (List.mem_cons_of_mem _ hy)⟩
theorem sam_lst {n : Nat} {xs : List D} (h : ∀ x ∈ xs, sam n x = true) (hl : xs.length ≤ 100000) : sam (n + 1) (.lst xs) = true := by
  simp only [sam, Bool.and_eq_true, decide_eq_true_eq]
  exact ⟨samA_of h, hl⟩
theorem sam_tup {n : Nat} {xs : List D} (h : ∀ x ∈ xs, sam n x = true) (hl : xs.length ≤ 100000) : sam (n + 1) (.tup xs) = true := by
  simp only [sam, Bool.and_eq_true, decide_eq_true_eq]
  exact ⟨samA_of h, hl⟩
theorem sam_ints {n : Nat} {v : List Int} (hl : v.length ≤ 100000) : sam (n + 1) (.lst (iL v)) = true := sam_lst (fun x hx => by
  obtain ⟨y, _, rfl⟩ := List.mem_map.mp hx
  simp [sam]) (by rw [iL_len]; exact hl)

/-- the sum that a recipe tells of a list of numbers -/
def comeV (r f v : List Int) : Int := (((List.range r.length).map fun k => v.getD (r.getD k 0).toNat 0 * f.getD k 0)).sum
/-- a recipe that is right in all of the lists us -/
structure RightV (n : Nat) (us : List (List Int)) (left : List Int) (w : Int) (r f : List Int) : Prop where
  len : r.length = f.length
  few : r.length ≤ 60
  up : r.Pairwise (· < ·)
  inl : ∀ x ∈ r, x ∈ left
  bd : ∀ x ∈ r, 0 ≤ x ∧ x < n
  fb : ∀ x ∈ f, 1 ≤ x ∧ x ≤ 96
  wb : 0 ≤ w ∧ w < n
  rt : ∀ v ∈ us, (comeV r f v - v.getD w.toNat 0) % 97 = 0

theorem comeV_map (ps : List Nat) (c : Nat → Int) (v : List Int) : comeV (ps.map fun (p : Nat) => (p : Int)) (ps.map c) v = (ps.map fun p => c p * v.getD p 0).sum := by
  unfold comeV
  congr 1
  apply List.ext_getElem
  · simp
  · intro k h1 h2
    have hk : k < ps.length := by simpa using h2
    rw [List.getElem_map, List.getElem_map, List.getElem_range]
    have e1 : (ps.map fun (p : Nat) => (p : Int)).getD k 0 = (ps[k] : Int) := by rw [List.getD_eq_getElem?_getD, List.getElem?_map, List.getElem?_eq_getElem hk]; rfl
    have e2 : (ps.map c).getD k 0 = c ps[k] := by rw [List.getD_eq_getElem?_getD, List.getElem?_map, List.getElem?_eq_getElem hk]; rfl
    rw [e1, e2, Int.toNat_natCast, Int.mul_comm]
/-- the row that tells w: its recipe is right in all that keep the checks -/
theorem row_RightV {g s u w : Nat} {l row : List Int} {us : List (List Int)} (hus : ∀ v ∈ us, RowN (many g s u) v ∧ keepsV g s u v = true) (hm : many g s u ≤ 60) (hw : w < many g s u) (er : recRow g s u l w = some row) : RightV (many g s u) us l w (readsV row w) (facsV row w) := by
  have er' : rowAtV (chkOf g s u l w) w = some row := by
    have q := er; unfold recRow at q; rw [Int.toNat_natCast] at q; exact q
  obtain ⟨h1, hne⟩ := rowAt_some er'
  have ck := chk_rows row h1
  refine ⟨by unfold readsV facsV; rw [List.length_map, List.length_map], ?_, ?_, fun x hx => ?_, fun x hx => ?_, facs_bd ck.row hne, ⟨by omega, by omega⟩, fun v hv => ?_⟩
  · unfold readsV readsN
    rw [List.length_map]
    exact Nat.le_trans (List.length_filter_le _ _) (by rw [List.length_range, ck.row.1]; exact hm)
  · unfold readsV
    rw [List.pairwise_map]
    exact (reads_up row w).imp fun h => by omega
  · obtain ⟨p, hp, rfl⟩ := List.mem_map.mp hx
    obtain ⟨p1, p2, p3⟩ := reads_mem.mp hp
    exact Classical.byContradiction fun z => p2 (ck.zero p (by rw [← ck.row.1]; exact p1) (by omega) z)
  · obtain ⟨p, hp, rfl⟩ := List.mem_map.mp hx
    obtain ⟨p1, _⟩ := reads_mem.mp hp
    rw [ck.row.1] at p1
    exact ⟨by omega, by omega⟩
  · have q := rec_right ck.row hw hne (ck.orth v (hus v hv).1.1 (hus v hv).2)
    unfold readsV facsV
    rw [comeV_map, Int.toNat_natCast]
    omega
theorem own_RightV {n w : Nat} {l : List Int} {us : List (List Int)} (hl : (w : Int) ∈ l) (hw : w < n) : RightV n us l w [(w : Int)] [1] := by
  refine ⟨rfl, by show 1 ≤ 60; decide, List.pairwise_singleton _ _, fun x hx => by rw [List.mem_singleton.mp hx]; exact hl, fun x hx => by rw [List.mem_singleton.mp hx]; omega, fun x hx => by rw [List.mem_singleton.mp hx]; decide, ⟨by omega, by omega⟩, fun v hv => ?_⟩
  have e : comeV [(w : Int)] [1] v = v.getD w 0 := by
    show ([v.getD ((w : Int)).toNat 0 * 1] : List Int).sum = _
    rw [Int.toNat_natCast, Int.mul_one]
    simp
  rw [e, Int.toNat_natCast]
  omega
theorem units_keep {g s u : Nat} : ∀ v ∈ unitsV g s u, RowN (many g s u) v ∧ keepsV g s u v = true := fun v hv => ⟨units_RowN v hv, unit_keeps v hv⟩

/-! a group's places -/
theorem grp_lt {g s u a c : Nat} (ha : a < g) (hc : c ≤ s) : a * (s + 1) + c < many g s u := by
  have := blk_lt (b := s + 1) ha (show c < s + 1 by omega)
  unfold many; omega
/-- at a group's place of a unit of the group -/
theorem unit_grp {g s u a j : Nat} (ha : a < g) (hj : j < s) (b c : Nat) (hb : b < g) (hc : c ≤ s) : (fillV g s u (unitD (g * s) (a * s + j))).getD (b * (s + 1) + c) 0 = if b = a ∧ (c = j ∨ c = s) then 1 else 0 := by
  have hp := grp_lt (u := u) hb hc
  rw [unit_at (blk_lt ha hj) hp]
  have inj : ∀ i, i < s → (b * s + i = a * s + j ↔ b = a ∧ i = j) := fun i hi => by
    constructor
    · intro e
      have q1 := dv b s i hi
      have q2 := dv a s j hj
      have q3 := md b s i hi
      have q4 := md a s j hj
      rw [e] at q1 q3
      exact ⟨by omega, by omega⟩
    · rintro ⟨rfl, rfl⟩; rfl
  by_cases cs : c = s
  · subst cs
    rw [fill_loc hb]
    by_cases e : b = a
    · subst e
      rw [if_pos ⟨rfl, .inr rfl⟩, sm_one (k := j) hj fun i hi hij => by unfold unitF; rw [if_neg fun z => hij ((inj i hi).mp z).2]]
      unfold unitF
      rw [if_pos rfl]; rfl
    · rw [if_neg fun z => e z.1, sm_zero fun i hi => by unfold unitF; rw [if_neg fun z => e ((inj i hi).mp z).1]]
      rfl
  · have hc' : c < s := by omega
    rw [fill_data hb hc']
    unfold unitF
    by_cases e : b = a ∧ c = j
    · rw [if_pos ((inj c hc').mpr e), if_pos ⟨e.1, .inl e.2⟩]
    · rw [if_neg fun z => e ((inj c hc').mp z), if_neg fun z => z.2.elim (fun y => e ⟨z.1, y⟩) cs]
/-- of a row that is 0 at over places: its numbers at a group's data place and at its local one together are 0 -/
theorem grp_pair {g s u a j : Nat} {l : List Int} {w : Int} {r : List Int} (ha : a < g) (hj : j < s) (h : ChkRow g s u l w r) (h0 : ∀ p, g * (s + 1) ≤ p → p < many g s u → r.getD p 0 = 0) : (r.getD (a * (s + 1) + j) 0 + r.getD (a * (s + 1) + s) 0) % 97 = 0 := by
  have q := h.orth _ (fillV_len ..) (keeps_fill g s u (unitD (g * s) (a * s + j)))
  unfold orth sdot at q
  have p1 := grp_lt (u := u) ha (show j ≤ s by omega)
  have p2 := grp_lt (u := u) ha (Nat.le_refl s)
  have e : sm (many g s u) (fun p => (fillV g s u (unitD (g * s) (a * s + j))).getD p 0 * r.getD p 0) = sm (many g s u) (fun p => (if p = a * (s + 1) + j then r.getD (a * (s + 1) + j) 0 else 0) + (if p = a * (s + 1) + s then r.getD (a * (s + 1) + s) 0 else 0)) := sm_congr fun p hp => by
    by_cases hlt : p < g * (s + 1)
    · obtain ⟨b, c, hb, hc, rfl⟩ := place_of hlt
      rw [unit_grp ha hj b c hb (by omega)]
      have inj : ∀ i, i ≤ s → (b * (s + 1) + c = a * (s + 1) + i ↔ b = a ∧ c = i) := fun i hi => by
        constructor
        · intro e
          have q1 := dv b (s + 1) c hc
          have q2 := dv a (s + 1) i (by omega)
          have q3 := md b (s + 1) c hc
          have q4 := md a (s + 1) i (by omega)
          rw [e] at q1 q3
          exact ⟨by omega, by omega⟩
        · rintro ⟨rfl, rfl⟩; rfl
      by_cases e1 : b = a
      · subst e1
        by_cases e2 : c = j
        · subst e2
          rw [if_pos ⟨rfl, .inl rfl⟩, if_pos rfl, if_neg (fun z => by have := ((inj s (Nat.le_refl s)).mp z).2; omega), Int.one_mul, Int.add_zero]
        · by_cases e3 : c = s
          · subst e3
            rw [if_pos ⟨rfl, .inr rfl⟩, if_neg (fun z => e2 ((inj j (by omega)).mp z).2), if_pos rfl, Int.one_mul, Int.zero_add]
          · rw [if_neg (fun z => z.2.elim e2 e3), if_neg (fun z => e2 ((inj j (by omega)).mp z).2), if_neg (fun z => e3 ((inj s (Nat.le_refl s)).mp z).2), Int.zero_mul]; rfl
      · rw [if_neg (fun z => e1 z.1), if_neg (fun z => e1 ((inj j (by omega)).mp z).1), if_neg (fun z => e1 ((inj s (Nat.le_refl s)).mp z).1), Int.zero_mul]; rfl
    · rw [h0 p (by omega) hp, Int.mul_zero, if_neg (by have := blk_lt (b := s + 1) ha (show j < s + 1 by omega); omega), if_neg (by have := blk_lt (b := s + 1) ha (show s < s + 1 by omega); omega)]; rfl
  rw [e, sm_plus, sm_one (k := a * (s + 1) + j) p1 fun i _ z => if_neg z, if_pos rfl, sm_one (k := a * (s + 1) + s) p2 fun i _ z => if_neg z, if_pos rfl] at q
  exact q
/-- THE FIRST: with the rest of its group left a place is told -/
theorem grp_tells {g s u a c : Nat} {l : List Int} (ha : a < g) (hc : c ≤ s) (hl : ∀ p ∈ l, 0 ≤ p ∧ p < many g s u) (hn : ((a * (s + 1) + c : Nat) : Int) ∉ l) (hr : ∀ i, i ≤ s → i ≠ c → ((a * (s + 1) + i : Nat) : Int) ∈ l) : ∃ row, recRow g s u l ((a * (s + 1) + c : Nat) : Int) = some row := by
  have hw := grp_lt (u := u) ha hc
  cases e : recRow g s u l ((a * (s + 1) + c : Nat) : Int) with
  | some row => exact ⟨row, rfl⟩
  | none =>
    obtain ⟨v, hv⟩ := gho_some hw hl hn e
    have gk := gho_ok (fun p hp => (hl p hp).1) hv
    have hk := (keeps_iff.mp gk.keeps).1 a ha
    rw [dot_loc gk.row.1 ha] at hk
    have z : ∀ i, i ≤ s → i ≠ c → v.getD (a * (s + 1) + i) 0 = 0 := fun i hi hic => by
      have := gk.zero _ (hr i hi hic)
      rw [Int.toNat_natCast] at this
      exact this
    have hb := gk.row.at (a * (s + 1) + c)
    have hne := gk.ne
    by_cases cs : c = s
    · subst cs
      rw [sm_zero fun i hi => z i (by omega) (by omega)] at hk
      omega
    · rw [sm_one (k := c) (by omega) fun i hi hic => z i (by omega) hic, z s (Nat.le_refl s) (Ne.symm cs)] at hk
      omega
/-- THE SECOND: of other groups alone it is hidden -/
theorem grp_hidden {g s u a c : Nat} {l : List Int} (ha : a < g) (hc : c ≤ s) (s0 : 1 ≤ s) (hl : ∀ p : Nat, (p : Int) ∈ l → p < g * (s + 1) ∧ ∀ i, i ≤ s → p ≠ a * (s + 1) + i) : recRow g s u l ((a * (s + 1) + c : Nat) : Int) = none := by
  have hw := grp_lt (u := u) ha hc
  have hw2 := blk_lt (b := s + 1) ha (show c < s + 1 by omega)
  unfold recRow rowAtV
  rw [Int.toNat_natCast, List.find?_eq_none]
  intro r hr
  have ck := chk_rows r hr
  have h0 : ∀ p, g * (s + 1) ≤ p → p < many g s u → r.getD p 0 = 0 := fun p h1 h2 => ck.zero p h2 (by omega) fun z => by have := (hl p z).1; omega
  have hz : ∀ i, i ≤ s → i ≠ c → r.getD (a * (s + 1) + i) 0 = 0 := fun i hi hic => ck.zero _ (grp_lt ha hi) (by omega) fun z => (hl _ z).2 i hi rfl
  have hb := ck.row.at (a * (s + 1) + c)
  have e : r.getD (a * (s + 1) + c) 0 = 0 := by
    by_cases cs : c = s
    · subst cs
      have q := grp_pair ha (show 0 < c by omega) ck h0
      rw [hz 0 (by omega) (by omega)] at q
      omega
    · have q := grp_pair ha (show c < s by omega) ck h0
      rw [hz s (Nat.le_refl s) (Ne.symm cs)] at q
      omega
  rw [e]
  simp
/-- the rest of a group -/
def restN (s a c : Nat) : List Nat := ((List.range (s + 1)).map fun j => a * (s + 1) + j).filter fun p => decide (p ≠ a * (s + 1) + c)
theorem restN_mem {s a c p : Nat} : p ∈ restN s a c ↔ ∃ j, j ≤ s ∧ j ≠ c ∧ p = a * (s + 1) + j := by
  unfold restN
  rw [List.mem_filter, List.mem_map]
  constructor
  · rintro ⟨⟨j, hj, rfl⟩, h⟩
    have := of_decide_eq_true h
    exact ⟨j, by have := List.mem_range.mp hj; omega, by omega, rfl⟩
  · rintro ⟨j, h1, h2, rfl⟩
    exact ⟨⟨j, List.mem_range.mpr (by omega), rfl⟩, decide_eq_true (by omega)⟩
/-- THE THIRD: of nothing but the rest of its group -/
theorem grp_alone {g s u a c : Nat} {row : List Int} (ha : a < g) (hc : c ≤ s) (er : recRow g s u ((restN s a c).map fun (p : Nat) => (p : Int)) ((a * (s + 1) + c : Nat) : Int) = some row) :
    readsN row (a * (s + 1) + c) = restN s a c ∧ facsV row (a * (s + 1) + c) = (restN s a c).map fun p => if c = s then 1 else if p = a * (s + 1) + s then 1 else 96 := by
  have hw := grp_lt (u := u) ha hc
  have er' := er
  unfold recRow at er'
  rw [Int.toNat_natCast] at er'
  obtain ⟨h1, hne⟩ := rowAt_some er'
  have ck := chk_rows row h1
  have inl : ∀ p : Nat, (p : Int) ∈ (restN s a c).map (fun (p : Nat) => (p : Int)) ↔ p ∈ restN s a c := fun p => by
    rw [List.mem_map]
    exact ⟨fun ⟨q, hq, e⟩ => by rw [show p = q by omega]; exact hq, fun h => ⟨p, h, rfl⟩⟩
  have h0 : ∀ p, g * (s + 1) ≤ p → p < many g s u → row.getD p 0 = 0 := fun p q1 q2 => by
    have hb := blk_lt (b := s + 1) ha (show c < s + 1 by omega)
    refine ck.zero p q2 (by omega) fun z => ?_
    obtain ⟨j, hj, _, e⟩ := restN_mem.mp ((inl p).mp z)
    have hb := blk_lt (b := s + 1) ha (show j < s + 1 by omega)
    omega
  have pr : ∀ j, j < s → (row.getD (a * (s + 1) + j) 0 + row.getD (a * (s + 1) + s) 0) % 97 = 0 := fun j hj => grp_pair ha hj ck h0
  -- the local number is not 0
  have hx := ck.row.at (a * (s + 1) + s)
  have hloc : row.getD (a * (s + 1) + s) 0 ≠ 0 := by
    by_cases cs : c = s
    · subst cs; exact hne
    · have q := pr c (by omega)
      have hb := ck.row.at (a * (s + 1) + c)
      omega
  have hall : ∀ j, j ≤ s → row.getD (a * (s + 1) + j) 0 ≠ 0 := fun j hj => by
    by_cases e : j = s
    · rw [e]; exact hloc
    · have q := pr j (by omega)
      omega
  have er2 : readsN row (a * (s + 1) + c) = restN s a c := by
    have q1 := reads_up row (a * (s + 1) + c)
    have q2 : (restN s a c).Pairwise (· < ·) := by
      unfold restN
      refine List.Pairwise.filter _ ?_
      rw [List.pairwise_map]
      exact List.pairwise_lt_range.imp fun h => by omega
    have e := sorted_ext (l1 := (readsN row (a * (s + 1) + c)).map fun (p : Nat) => (p : Int)) (l2 := (restN s a c).map fun (p : Nat) => (p : Int)) (by rw [List.pairwise_map]; exact q1.imp fun h => by omega) (by rw [List.pairwise_map]; exact q2.imp fun h => by omega) (fun k => by
      constructor
      · intro h
        obtain ⟨p, hp, rfl⟩ := List.mem_map.mp h
        obtain ⟨p1, p2, p3⟩ := reads_mem.mp hp
        exact Classical.byContradiction fun z => p2 (ck.zero p (by rw [← ck.row.1]; exact p1) (by omega) z)
      · intro h
        obtain ⟨p, hp, rfl⟩ := List.mem_map.mp h
        refine List.mem_map_of_mem ?_
        obtain ⟨j, j1, j2, rfl⟩ := restN_mem.mp hp
        exact reads_mem.mpr ⟨by rw [ck.row.1]; exact grp_lt ha j1, hall j j1, by omega⟩)
    exact (List.map_inj_right fun x y h => by omega).mp e
  refine ⟨er2, ?_⟩
  unfold facsV
  rw [er2]
  apply List.map_congr_left
  intro p hp
  obtain ⟨j, j1, j2, rfl⟩ := restN_mem.mp hp
  obtain ⟨m, hm⟩ := back_eq ck.row hne
  generalize backV row (a * (s + 1) + c) = k at *
  have hbj := ck.row.at (a * (s + 1) + j)
  have hbc := ck.row.at (a * (s + 1) + c)
  by_cases cs : c = s
  · subst cs
    rw [if_pos rfl]
    have q := pr j (by omega)
    have e : row.getD (a * (c + 1) + j) 0 = 97 - row.getD (a * (c + 1) + c) 0 := by have := hall j j1; omega
    rw [e, Int.mul_sub, hm]
    omega
  · rw [if_neg cs]
    have qc := pr c (by omega)
    have hc0 := hall c hc
    by_cases js : j = s
    · subst js
      rw [if_pos rfl]
      have e : row.getD (a * (j + 1) + j) 0 = 97 - row.getD (a * (j + 1) + c) 0 := by omega
      rw [e, Int.mul_sub, hm]
      omega
    · rw [if_neg (by omega)]
      have q := pr j (by omega)
      have e : row.getD (a * (s + 1) + j) 0 = row.getD (a * (s + 1) + c) 0 := by have := hall j j1; omega
      rw [e, hm]
      omega

structure Txt (K : PySem.W.Frag) (mg : Str → Option Value) where
  t_MARKS : Addr
  c_MARKS : mg "MARKS" = some (.ref t_MARKS)
  p_MARKS : ∀ H : Hp, Rp K H (.ref t_MARKS) (.tup [.int 1, .int 11, .int 40, .int 30])
  q_MARKS : ∀ H : Hp, RpA K H [.ref t_MARKS] [.tup [.int 1, .int 11, .int 40, .int 30]]
  t_PLAIN : Addr
  c_PLAIN : mg "PLAIN" = some (.ref t_PLAIN)
  p_PLAIN : ∀ H : Hp, Rp K H (.ref t_PLAIN) (.tup [.int 2, .int 3, .int 2])
  q_PLAIN : ∀ H : Hp, RpA K H [.ref t_PLAIN] [.tup [.int 2, .int 3, .int 2]]
  f_plus : Addr
  fd_plus : FuncData
  F_plus : Fun K "plus" "plus" s_plus f_plus fd_plus
  g_plus : mg "plus" = some (.ref f_plus)
  k_plus : PySem.W.keepIn K (.ref f_plus) = true
  b_plus : Kb K fd_plus ["one", "other"] 2 [] (fun vs _ => vs)
  f_times : Addr
  fd_times : FuncData
  F_times : Fun K "times" "times" s_times f_times fd_times
  g_times : mg "times" = some (.ref f_times)
  k_times : PySem.W.keepIn K (.ref f_times) = true
  b_times : Kb K fd_times ["one", "other"] 2 [] (fun vs _ => vs)
  f_power : Addr
  fd_power : FuncData
  F_power : Fun K "power" "power" s_power f_power fd_power
  g_power : mg "power" = some (.ref f_power)
  k_power : PySem.W.keepIn K (.ref f_power) = true
  b_power : Kb K fd_power ["one", "many"] 2 [] (fun vs _ => vs)
  f_over : Addr
  fd_over : FuncData
  F_over : Fun K "over" "over" s_over f_over fd_over
  g_over : mg "over" = some (.ref f_over)
  k_over : PySem.W.keepIn K (.ref f_over) = true
  b_over : Kb K fd_over ["one", "other"] 2 [] (fun vs _ => vs)
  f_less : Addr
  fd_less : FuncData
  F_less : Fun K "less" "less" s_less f_less fd_less
  g_less : mg "less" = some (.ref f_less)
  k_less : PySem.W.keepIn K (.ref f_less) = true
  b_less : Kb K fd_less ["row", "other", "factor"] 3 [] (fun vs _ => vs)
  f_cleared : Addr
  fd_cleared : FuncData
  F_cleared : Fun K "cleared" "cleared" s_cleared f_cleared fd_cleared
  g_cleared : mg "cleared" = some (.ref f_cleared)
  k_cleared : PySem.W.keepIn K (.ref f_cleared) = true
  b_cleared : Kb K fd_cleared ["rows", "place"] 2 [] (fun vs _ => vs)
  f_row_at : Addr
  fd_row_at : FuncData
  F_row_at : Fun K "row_at" "row_at" s_row_at f_row_at fd_row_at
  g_row_at : mg "row_at" = some (.ref f_row_at)
  k_row_at : PySem.W.keepIn K (.ref f_row_at) = true
  b_row_at : Kb K fd_row_at ["rows", "place"] 2 [] (fun vs _ => vs)
  f_is_whole : Addr
  fd_is_whole : FuncData
  F_is_whole : Fun K "is_whole" "is_whole" s_is_whole f_is_whole fd_is_whole
  g_is_whole : mg "is_whole" = some (.ref f_is_whole)
  k_is_whole : PySem.W.keepIn K (.ref f_is_whole) = true
  b_is_whole : Kb K fd_is_whole ["thing"] 1 [] (fun vs _ => vs)
  f_is_shape : Addr
  fd_is_shape : FuncData
  F_is_shape : Fun K "is_shape" "is_shape" s_is_shape f_is_shape fd_is_shape
  g_is_shape : mg "is_shape" = some (.ref f_is_shape)
  k_is_shape : PySem.W.keepIn K (.ref f_is_shape) = true
  b_is_shape : Kb K fd_is_shape ["thing"] 1 [] (fun vs _ => vs)
  f_need_shape : Addr
  fd_need_shape : FuncData
  F_need_shape : Fun K "need_shape" "need_shape" s_need_shape f_need_shape fd_need_shape
  g_need_shape : mg "need_shape" = some (.ref f_need_shape)
  k_need_shape : PySem.W.keepIn K (.ref f_need_shape) = true
  b_need_shape : Kb K fd_need_shape ["thing"] 1 [] (fun vs _ => vs)
  f_count : Addr
  fd_count : FuncData
  F_count : FunD K "count" "count" (defArgs s_count) (defBody s_count) (defScope s_count) [] [("shape", .ref t_PLAIN)] f_count fd_count
  g_count : mg "count" = some (.ref f_count)
  k_count : PySem.W.keepIn K (.ref f_count) = true
  b_count_0_shape : Kb K fd_count ["shape"] 0 ["shape"] (fun vs zs => vs ++ zs)
  f_is_place : Addr
  fd_is_place : FuncData
  F_is_place : Fun K "is_place" "is_place" s_is_place f_is_place fd_is_place
  g_is_place : mg "is_place" = some (.ref f_is_place)
  k_is_place : PySem.W.keepIn K (.ref f_is_place) = true
  b_is_place : Kb K fd_is_place ["thing", "shape"] 2 [] (fun vs _ => vs)
  f_need_places : Addr
  fd_need_places : FuncData
  F_need_places : Fun K "need_places" "need_places" s_need_places f_need_places fd_need_places
  g_need_places : mg "need_places" = some (.ref f_need_places)
  k_need_places : PySem.W.keepIn K (.ref f_need_places) = true
  b_need_places : Kb K fd_need_places ["things", "shape"] 2 [] (fun vs _ => vs)
  f_data_places : Addr
  fd_data_places : FuncData
  F_data_places : FunD K "data_places" "data_places" (defArgs s_data_places) (defBody s_data_places) (defScope s_data_places) [] [("shape", .ref t_PLAIN)] f_data_places fd_data_places
  g_data_places : mg "data_places" = some (.ref f_data_places)
  k_data_places : PySem.W.keepIn K (.ref f_data_places) = true
  b_data_places_0_shape : Kb K fd_data_places ["shape"] 0 ["shape"] (fun vs zs => vs ++ zs)
  f_kind_of : Addr
  fd_kind_of : FuncData
  F_kind_of : FunD K "kind_of" "kind_of" (defArgs s_kind_of) (defBody s_kind_of) (defScope s_kind_of) [] [("shape", .ref t_PLAIN)] f_kind_of fd_kind_of
  g_kind_of : mg "kind_of" = some (.ref f_kind_of)
  k_kind_of : PySem.W.keepIn K (.ref f_kind_of) = true
  b_kind_of_1_shape : Kb K fd_kind_of ["place", "shape"] 1 ["shape"] (fun vs zs => vs ++ zs)
  f_mark : Addr
  fd_mark : FuncData
  F_mark : FunD K "mark" "mark" (defArgs s_mark) (defBody s_mark) (defScope s_mark) [] [("shape", .ref t_PLAIN)] f_mark fd_mark
  g_mark : mg "mark" = some (.ref f_mark)
  k_mark : PySem.W.keepIn K (.ref f_mark) = true
  b_mark_1_shape : Kb K fd_mark ["place", "shape"] 1 ["shape"] (fun vs zs => vs ++ zs)
  f_local_check : Addr
  fd_local_check : FuncData
  F_local_check : Fun K "local_check" "local_check" s_local_check f_local_check fd_local_check
  g_local_check : mg "local_check" = some (.ref f_local_check)
  k_local_check : PySem.W.keepIn K (.ref f_local_check) = true
  b_local_check : Kb K fd_local_check ["group", "shape"] 2 [] (fun vs _ => vs)
  f_over_check : Addr
  fd_over_check : FuncData
  F_over_check : Fun K "over_check" "over_check" s_over_check f_over_check fd_over_check
  g_over_check : mg "over_check" = some (.ref f_over_check)
  k_over_check : PySem.W.keepIn K (.ref f_over_check) = true
  b_over_check : Kb K fd_over_check ["number", "shape"] 2 [] (fun vs _ => vs)
  f_checks : Addr
  fd_checks : FuncData
  F_checks : FunD K "checks" "checks" (defArgs s_checks) (defBody s_checks) (defScope s_checks) [] [("shape", .ref t_PLAIN)] f_checks fd_checks
  g_checks : mg "checks" = some (.ref f_checks)
  k_checks : PySem.W.keepIn K (.ref f_checks) = true
  b_checks_0_shape : Kb K fd_checks ["shape"] 0 ["shape"] (fun vs zs => vs ++ zs)
  f_filled : Addr
  fd_filled : FuncData
  F_filled : Fun K "filled" "filled" s_filled f_filled fd_filled
  g_filled : mg "filled" = some (.ref f_filled)
  k_filled : PySem.W.keepIn K (.ref f_filled) = true
  b_filled : Kb K fd_filled ["data", "shape"] 2 [] (fun vs _ => vs)
  f_unit_fillings : Addr
  fd_unit_fillings : FuncData
  F_unit_fillings : Fun K "unit_fillings" "unit_fillings" s_unit_fillings f_unit_fillings fd_unit_fillings
  g_unit_fillings : mg "unit_fillings" = some (.ref f_unit_fillings)
  k_unit_fillings : PySem.W.keepIn K (.ref f_unit_fillings) = true
  b_unit_fillings : Kb K fd_unit_fillings ["shape"] 1 [] (fun vs _ => vs)
  f_checks_of : Addr
  fd_checks_of : FuncData
  F_checks_of : Fun K "checks_of" "checks_of" s_checks_of f_checks_of fd_checks_of
  g_checks_of : mg "checks_of" = some (.ref f_checks_of)
  k_checks_of : PySem.W.keepIn K (.ref f_checks_of) = true
  b_checks_of : Kb K fd_checks_of ["left", "wanted", "shape"] 3 [] (fun vs _ => vs)
  f_ghost_of : Addr
  fd_ghost_of : FuncData
  F_ghost_of : Fun K "ghost_of" "ghost_of" s_ghost_of f_ghost_of fd_ghost_of
  g_ghost_of : mg "ghost_of" = some (.ref f_ghost_of)
  k_ghost_of : PySem.W.keepIn K (.ref f_ghost_of) = true
  b_ghost_of : Kb K fd_ghost_of ["left", "wanted", "shape"] 3 [] (fun vs _ => vs)
  f_Recipe_init : Addr
  fd_Recipe_init : FuncData
  F_Recipe_init : Fun K "__init__" "Recipe.__init__" s_Recipe_init f_Recipe_init fd_Recipe_init
  b_Recipe_init : Kb K fd_Recipe_init ["self", "wanted", "reads", "factors"] 4 [] (fun vs _ => vs)
  bb_Recipe_init : Binds K fd_Recipe_init ["self", "wanted", "reads", "factors"] []
  f_recipe_by : Addr
  fd_recipe_by : FuncData
  F_recipe_by : Fun K "recipe_by" "recipe_by" s_recipe_by f_recipe_by fd_recipe_by
  g_recipe_by : mg "recipe_by" = some (.ref f_recipe_by)
  k_recipe_by : PySem.W.keepIn K (.ref f_recipe_by) = true
  b_recipe_by : Kb K fd_recipe_by ["row", "wanted"] 2 [] (fun vs _ => vs)
  f_recipe : Addr
  fd_recipe : FuncData
  F_recipe : FunD K "recipe" "recipe" (defArgs s_recipe) (defBody s_recipe) (defScope s_recipe) [] [("shape", .ref t_PLAIN)] f_recipe fd_recipe
  g_recipe : mg "recipe" = some (.ref f_recipe)
  k_recipe : PySem.W.keepIn K (.ref f_recipe) = true
  b_recipe_2_shape : Kb K fd_recipe ["left", "wanted", "shape"] 2 ["shape"] (fun vs zs => vs ++ zs)
  f_recipes : Addr
  fd_recipes : FuncData
  F_recipes : FunD K "recipes" "recipes" (defArgs s_recipes) (defBody s_recipes) (defScope s_recipes) [] [("shape", .ref t_PLAIN)] f_recipes fd_recipes
  g_recipes : mg "recipes" = some (.ref f_recipes)
  k_recipes : PySem.W.keepIn K (.ref f_recipes) = true
  b_recipes_1_shape : Kb K fd_recipes ["left", "shape"] 1 ["shape"] (fun vs zs => vs ++ zs)
  f__law_purse : Addr
  fd__law_purse : FuncData
  F__law_purse : Fun K "_law_purse" "_law_purse" s__law_purse f__law_purse fd__law_purse
  g__law_purse : mg "_law_purse" = some (.ref f__law_purse)
  k__law_purse : PySem.W.keepIn K (.ref f__law_purse) = true
  b__law_purse : Kb K fd__law_purse ["script", "k"] 2 [] (fun vs _ => vs)
  f__law_drawn : Addr
  fd__law_drawn : FuncData
  F__law_drawn : Fun K "_law_drawn" "_law_drawn" s__law_drawn f__law_drawn fd__law_drawn
  g__law_drawn : mg "_law_drawn" = some (.ref f__law_drawn)
  k__law_drawn : PySem.W.keepIn K (.ref f__law_drawn) = true
  b__law_drawn : Kb K fd__law_drawn ["purse", "many"] 2 [] (fun vs _ => vs)
  f__law_shape : Addr
  fd__law_shape : FuncData
  F__law_shape : Fun K "_law_shape" "_law_shape" s__law_shape f__law_shape fd__law_shape
  g__law_shape : mg "_law_shape" = some (.ref f__law_shape)
  k__law_shape : PySem.W.keepIn K (.ref f__law_shape) = true
  b__law_shape : Kb K fd__law_shape ["purse", "most"] 2 [] (fun vs _ => vs)
  f__law_filled : Addr
  fd__law_filled : FuncData
  F__law_filled : Fun K "_law_filled" "_law_filled" s__law_filled f__law_filled fd__law_filled
  g__law_filled : mg "_law_filled" = some (.ref f__law_filled)
  k__law_filled : PySem.W.keepIn K (.ref f__law_filled) = true
  b__law_filled : Kb K fd__law_filled ["mould", "data"] 2 [] (fun vs _ => vs)
  f__law_whole : Addr
  fd__law_whole : FuncData
  F__law_whole : Fun K "_law_whole" "_law_whole" s__law_whole f__law_whole fd__law_whole
  g__law_whole : mg "_law_whole" = some (.ref f__law_whole)
  k__law_whole : PySem.W.keepIn K (.ref f__law_whole) = true
  b__law_whole : Kb K fd__law_whole ["found"] 1 [] (fun vs _ => vs)
  f__law_same : Addr
  fd__law_same : FuncData
  F__law_same : Fun K "_law_same" "_law_same" s__law_same f__law_same fd__law_same
  g__law_same : mg "_law_same" = some (.ref f__law_same)
  k__law_same : PySem.W.keepIn K (.ref f__law_same) = true
  b__law_same : Kb K fd__law_same ["found", "due"] 2 [] (fun vs _ => vs)
  f__law_units : Addr
  fd__law_units : FuncData
  F__law_units : Fun K "_law_units" "_law_units" s__law_units f__law_units fd__law_units
  g__law_units : mg "_law_units" = some (.ref f__law_units)
  k__law_units : PySem.W.keepIn K (.ref f__law_units) = true
  b__law_units : Kb K fd__law_units ["mould"] 1 [] (fun vs _ => vs)
  f_Recipe_len : Addr
  fd_Recipe_len : FuncData
  F_Recipe_len : Fun K "__len__" "Recipe.__len__" s_Recipe_len f_Recipe_len fd_Recipe_len
  b_Recipe_len : Kb K fd_Recipe_len ["self"] 1 [] (fun vs _ => vs)
  bb_Recipe_len : Binds K fd_Recipe_len ["self"] []
  f__law_right : Addr
  fd__law_right : FuncData
  F__law_right : Fun K "_law_right" "_law_right" s__law_right f__law_right fd__law_right
  g__law_right : mg "_law_right" = some (.ref f__law_right)
  k__law_right : PySem.W.keepIn K (.ref f__law_right) = true
  b__law_right : Kb K fd__law_right ["found", "units", "left", "wanted"] 4 [] (fun vs _ => vs)
  f__law_recipe : Addr
  fd__law_recipe : FuncData
  F__law_recipe : Fun K "_law_recipe" "_law_recipe" s__law_recipe f__law_recipe fd__law_recipe
  g__law_recipe : mg "_law_recipe" = some (.ref f__law_recipe)
  k__law_recipe : PySem.W.keepIn K (.ref f__law_recipe) = true
  b__law_recipe : Kb K fd__law_recipe ["left", "wanted", "mould"] 3 [] (fun vs _ => vs)
  f__law_alone : Addr
  fd__law_alone : FuncData
  F__law_alone : Fun K "_law_alone" "_law_alone" s__law_alone f__law_alone fd__law_alone
  g__law_alone : mg "_law_alone" = some (.ref f__law_alone)
  k__law_alone : PySem.W.keepIn K (.ref f__law_alone) = true
  b__law_alone : Kb K fd__law_alone ["rest", "wanted", "spot"] 3 [] (fun vs _ => vs)
  f_Recipe_eq : Addr
  fd_Recipe_eq : FuncData
  F_Recipe_eq : Fun K "__eq__" "Recipe.__eq__" s_Recipe_eq f_Recipe_eq fd_Recipe_eq
  b_Recipe_eq : Kb K fd_Recipe_eq ["self", "other"] 2 [] (fun vs _ => vs)
  bb_Recipe_eq : Binds K fd_Recipe_eq ["self", "other"] []
  f_law : Addr
  fd_law : FuncData
  F_law : Fun K "law" "law" s_law f_law fd_law
  g_law : mg "law" = some (.ref f_law)
  k_law : PySem.W.keepIn K (.ref f_law) = true
  b_law : Kb K fd_law ["script"] 1 [] (fun vs _ => vs)
  t_PRIME : Tok
  c_PRIME : mg "PRIME" = some (.int 97 t_PRIME)
  t_MOST_SIZE : Tok
  c_MOST_SIZE : mg "MOST_SIZE" = some (.int 4 t_MOST_SIZE)
  t_MOST_SUMS : Tok
  c_MOST_SUMS : mg "MOST_SUMS" = some (.int 2 t_MOST_SUMS)
  t_Hidden : Addr
  g_Hidden : mg "Hidden" = some (.ref t_Hidden)
  yN_Hidden : PySem.W.kitOne K (.type "NoneType") (.ref t_Hidden) = some false
  t_NoPlace : Addr
  g_NoPlace : mg "NoPlace" = some (.ref t_NoPlace)
  yN_NoPlace : PySem.W.kitOne K (.type "NoneType") (.ref t_NoPlace) = some false
  t_NoShape : Addr
  g_NoShape : mg "NoShape" = some (.ref t_NoShape)
  yN_NoShape : PySem.W.kitOne K (.type "NoneType") (.ref t_NoShape) = some false
  t_Recipe : Addr
  g_Recipe : mg "Recipe" = some (.ref t_Recipe)
  yN_Recipe : PySem.W.kitOne K (.type "NoneType") (.ref t_Recipe) = some false
  in_Recipe : InC K t_Recipe
  mk_Recipe : Mk K t_Recipe f_Recipe_init
  na_Recipe_wanted : NoAttr K t_Recipe "wanted"
  na_Recipe_reads : NoAttr K t_Recipe "reads"
  na_Recipe_factors : NoAttr K t_Recipe "factors"
  me_Recipe_init : Meth K t_Recipe "__init__" f_Recipe_init
  me_Recipe_eq : Meth K t_Recipe "__eq__" f_Recipe_eq
  me_Recipe_len : Meth K t_Recipe "__len__" f_Recipe_len
  yk_Recipe_NoneType : PySem.W.kitOne K (.type "NoneType") (.ref t_Recipe) = some false
  yt_Recipe_NoneType : PySem.W.kitOne K (.ref t_Recipe) (.type "NoneType") = some false
  nf_Recipe_NoneType : PySem.W.notFirst K t_Recipe (.type "NoneType") = true
  yk_Recipe_bool : PySem.W.kitOne K (.type "bool") (.ref t_Recipe) = some false
  yt_Recipe_bool : PySem.W.kitOne K (.ref t_Recipe) (.type "bool") = some false
  nf_Recipe_bool : PySem.W.notFirst K t_Recipe (.type "bool") = true
  yk_Recipe_int : PySem.W.kitOne K (.type "int") (.ref t_Recipe) = some false
  yt_Recipe_int : PySem.W.kitOne K (.ref t_Recipe) (.type "int") = some false
  nf_Recipe_int : PySem.W.notFirst K t_Recipe (.type "int") = true
  yk_Recipe_str : PySem.W.kitOne K (.type "str") (.ref t_Recipe) = some false
  yt_Recipe_str : PySem.W.kitOne K (.ref t_Recipe) (.type "str") = some false
  nf_Recipe_str : PySem.W.notFirst K t_Recipe (.type "str") = true
  yk_Recipe_list : PySem.W.kitOne K (.type "list") (.ref t_Recipe) = some false
  yt_Recipe_list : PySem.W.kitOne K (.ref t_Recipe) (.type "list") = some false
  nf_Recipe_list : PySem.W.notFirst K t_Recipe (.type "list") = true
  yk_Recipe_tuple : PySem.W.kitOne K (.type "tuple") (.ref t_Recipe) = some false
  yt_Recipe_tuple : PySem.W.kitOne K (.ref t_Recipe) (.type "tuple") = some false
  nf_Recipe_tuple : PySem.W.notFirst K t_Recipe (.type "tuple") = true
  yk_Recipe_dict : PySem.W.kitOne K (.type "dict") (.ref t_Recipe) = some false
  yt_Recipe_dict : PySem.W.kitOne K (.ref t_Recipe) (.type "dict") = some false
  nf_Recipe_dict : PySem.W.notFirst K t_Recipe (.type "dict") = true
  y_Recipe_Recipe : PySem.W.kitOne K (.ref t_Recipe) (.ref t_Recipe) = some true
  fI_Hidden : Addr
  fdI_Hidden : FuncData
  o_Hidden : OexC K t_Hidden
  e_Hidden : ExcC K t_Hidden
  n_Hidden_place : PySem.W.findIn K (.ref t_Hidden) "place" = some none
  n_Hidden_ghost : PySem.W.findIn K (.ref t_Hidden) "ghost" = some none
  i_Hidden : PySem.W.findIn K (.ref t_Hidden) "__init__" = some (some (.ref fI_Hidden))
  tI_Hidden : PySem.W.typeIn K (.ref fI_Hidden) = some (.type "function")
  FI_Hidden : Fun K "__init__" "Hidden.__init__" s_Hidden_init fI_Hidden fdI_Hidden
  bI_Hidden : Binds K fdI_Hidden ["self", "place", "ghost"] []
  m_Hidden_Hidden : PySem.W.exmOne K (.ref t_Hidden) (.ref t_Hidden) = some true
  y_Hidden_Hidden : PySem.W.kitOne K (.ref t_Hidden) (.ref t_Hidden) = some true
  y_Hidden_NoPlace : PySem.W.kitOne K (.ref t_Hidden) (.ref t_NoPlace) = some false
  y_Hidden_NoShape : PySem.W.kitOne K (.ref t_Hidden) (.ref t_NoShape) = some false
  fI_NoPlace : Addr
  fdI_NoPlace : FuncData
  o_NoPlace : OexC K t_NoPlace
  e_NoPlace : ExcC K t_NoPlace
  n_NoPlace : PySem.W.findIn K (.ref t_NoPlace) "place" = some none
  i_NoPlace : PySem.W.findIn K (.ref t_NoPlace) "__init__" = some (some (.ref fI_NoPlace))
  tI_NoPlace : PySem.W.typeIn K (.ref fI_NoPlace) = some (.type "function")
  FI_NoPlace : Fun K "__init__" "NoPlace.__init__" s_NoPlace_init fI_NoPlace fdI_NoPlace
  bI_NoPlace : Binds K fdI_NoPlace ["self", "place"] []
  m_NoPlace_Hidden : PySem.W.exmOne K (.ref t_NoPlace) (.ref t_Hidden) = some false
  y_NoPlace_Hidden : PySem.W.kitOne K (.ref t_NoPlace) (.ref t_Hidden) = some false
  y_NoPlace_NoPlace : PySem.W.kitOne K (.ref t_NoPlace) (.ref t_NoPlace) = some true
  y_NoPlace_NoShape : PySem.W.kitOne K (.ref t_NoPlace) (.ref t_NoShape) = some false
  fI_NoShape : Addr
  fdI_NoShape : FuncData
  o_NoShape : OexC K t_NoShape
  e_NoShape : ExcC K t_NoShape
  n_NoShape : PySem.W.findIn K (.ref t_NoShape) "shape" = some none
  i_NoShape : PySem.W.findIn K (.ref t_NoShape) "__init__" = some (some (.ref fI_NoShape))
  tI_NoShape : PySem.W.typeIn K (.ref fI_NoShape) = some (.type "function")
  FI_NoShape : Fun K "__init__" "NoShape.__init__" s_NoShape_init fI_NoShape fdI_NoShape
  bI_NoShape : Binds K fdI_NoShape ["self", "shape"] []
  m_NoShape_Hidden : PySem.W.exmOne K (.ref t_NoShape) (.ref t_Hidden) = some false
  y_NoShape_Hidden : PySem.W.kitOne K (.ref t_NoShape) (.ref t_Hidden) = some false
  y_NoShape_NoPlace : PySem.W.kitOne K (.ref t_NoShape) (.ref t_NoPlace) = some false
  y_NoShape_NoShape : PySem.W.kitOne K (.ref t_NoShape) (.ref t_NoShape) = some true
  b_all : mg "all" = none
  b_bool : mg "bool" = none
  b_divmod : mg "divmod" = none
  b_enumerate : mg "enumerate" = none
  b_int : mg "int" = none
  b_isinstance : mg "isinstance" = none
  b_len : mg "len" = none
  b_list : mg "list" = none
  b_max : mg "max" = none
  b_min : mg "min" = none
  b_range : mg "range" = none
  b_set : mg "set" = none
  b_sorted : mg "sorted" = none
  b_sum : mg "sum" = none
  b_tuple : mg "tuple" = none
  b_zip : mg "zip" = none
section
variable {P : Program} {w : World} {K : PySem.W.Frag} {mg : Str → Option Value} {base : Heap}
theorem x_Hidden (T : Txt K mg) : Ex2 P w K mg base T.t_Hidden T.fI_Hidden T.fdI_Hidden "place" "ghost" := ⟨T.o_Hidden, T.n_Hidden_place, T.n_Hidden_ghost, T.i_Hidden, T.tI_Hidden, T.bI_Hidden, init2_fn T.FI_Hidden sc_Hidden_init fun cdv A outer s H E => pss_cons (ps_ost (pv 0) (pv 1)) (pss_one (ps_ost (pv 0) (pv 2)))⟩
theorem x_NoPlace (T : Txt K mg) : Ex1 P w K mg base T.t_NoPlace T.fI_NoPlace T.fdI_NoPlace "place" := ⟨T.o_NoPlace, T.n_NoPlace, T.i_NoPlace, T.tI_NoPlace, T.bI_NoPlace, init1_fn T.FI_NoPlace sc_NoPlace_init fun cdv A outer s H E => pss_one (ps_ost (pv 0) (pv 1))⟩
theorem x_NoShape (T : Txt K mg) : Ex1 P w K mg base T.t_NoShape T.fI_NoShape T.fdI_NoShape "shape" := ⟨T.o_NoShape, T.n_NoShape, T.i_NoShape, T.tI_NoShape, T.bI_NoShape, init1_fn T.FI_NoShape sc_NoShape_init fun cdv A outer s H E => pss_one (ps_ost (pv 0) (pv 1))⟩
def fd_plus : Fd := { n := 2, dom := fun ds => ∃ i j : Int, ds = [.int i, .int j], res := fun ds d => ∃ i j : Int, ds = [.int i, .int j] ∧ d = .int ((i + j) % 97) }
theorem cl_plus {i j : Int} : Cal fd_plus [.int i, .int j] (.int ((i + j) % 97)) := ⟨rfl, ⟨i, j, rfl⟩, rfl, fun d ⟨i', n', e, q⟩ => by cases e; exact q, fun _ _ q => q⟩
local macro_rules | `(tactic| walk_at "cal") => `(tactic| exact cl_plus)
theorem ok_plus (T : Txt K mg) : FnOk P w K mg base (L2.CX P w) 1 T.f_plus T.fd_plus ["one", "other"] (SpD K fd_plus) := by
  refine fn_data (dvs := []) (kws := []) (N := N_plus) (.inr T.F_plus) sc_plus rfl (fun cdv A outer s H E hr tk => ?_)
  refine ⟨_, (pss_one (ps_ret (pe_op g_mod (pe_op (g_add (K := K) rfl) (pv 0) (pv 1)) (pe_glob (v := .int 97) rfl T.c_PRIME ⟨_, rfl⟩)))), fun ds N' b hl hd acc => ?_⟩
  obtain ⟨i, j, rfl⟩ := hd
  refine w_ret (by walk_at "ev") ?_
  exact ⟨by walk_at "b", i, j, rfl, rfl⟩

def fd_times : Fd := { n := 2, dom := fun ds => ∃ i j : Int, ds = [.int i, .int j] ∧ CMulW i j, res := fun ds d => ∃ i j : Int, ds = [.int i, .int j] ∧ d = .int ((i * j) % 97) }
theorem cl_times {i j : Int} (h : CMulW i j) : Cal fd_times [.int i, .int j] (.int (i * j % 97)) := ⟨rfl, ⟨i, j, rfl, h⟩, rfl, fun d ⟨i', n', e, q⟩ => by cases e; exact q, fun _ _ q => q⟩
local macro_rules | `(tactic| walk_at "cal") => `(tactic| (apply cl_times; first | assumption | walk_at "mul"))
theorem ok_times (T : Txt K mg) : FnOk P w K mg base (L2.CX P w) 1 T.f_times T.fd_times ["one", "other"] (SpD K fd_times) := by
  refine fn_data (dvs := []) (kws := []) (N := N_times) (.inr T.F_times) sc_times rfl (fun cdv A outer s H E hr tk => ?_)
  refine ⟨_, (pss_one (ps_ret (pe_op g_mod (pe_op g_mul (pv 0) (pv 1)) (pe_glob (v := .int 97) rfl T.c_PRIME ⟨_, rfl⟩)))), fun ds N' b hl hd acc => ?_⟩
  obtain ⟨i, j, rfl, hm⟩ := hd
  refine w_ret (by walk_at "ev") ?_
  exact ⟨by walk_at "b", i, j, rfl, rfl⟩

def pw (i : Int) (n : Nat) : Int := i ^ n % 97
theorem pw_step (f bs n r : Int) (h0 : 0 < n) (h : (f * bs ^ n.toNat) % 97 = r) :
    ((if decide (n % 2 = 1) = true then f * bs % 97 else f) * (bs * bs % 97) ^ (n / 2).toNat) % 97 = r := by
  have e : n.toNat = 2 * (n / 2).toNat + (n % 2).toNat := by omega
  have hp : ∀ (k : Nat) (x : Int), ((x * x % 97) ^ k) % 97 = (x ^ (2 * k)) % 97 := fun k x => by
    have h1 : ∀ (y : Int) (k : Nat), ((y % 97) ^ k) % 97 = (y ^ k) % 97 := fun y k => by
      induction k with
      | zero => rw [Int.pow_zero, Int.pow_zero]
      | succ k ih => rw [Int.pow_succ, Int.pow_succ, Int.mul_emod, ih, Int.emod_emod_of_dvd _ (Int.dvd_refl 97), ← Int.mul_emod]
    rw [h1, Int.pow_mul]
    congr 1
    congr 1
    rw [Int.pow_succ, Int.pow_succ, Int.pow_zero, Int.one_mul]
  rw [← h, e]
  split
  · rename_i hc
    have hc := of_decide_eq_true hc
    rw [Int.mul_emod, hp, Int.emod_emod_of_dvd _ (Int.dvd_refl 97), ← Int.mul_emod, hc, show (1 : Int).toNat = 1 from rfl, Int.pow_succ]
    congr 1
    rw [Int.mul_assoc, Int.mul_comm bs]
  · rename_i hc
    have hc : ¬ n % 2 = 1 := fun z => hc (decide_eq_true z)
    have h0 : n % 2 = 0 := by omega
    rw [Int.mul_emod, hp, ← Int.mul_emod, h0, show (0 : Int).toNat = 0 from rfl, Nat.add_zero]
def fd_power : Fd := { n := 2, dom := fun ds => ∃ i n : Int, ds = [.int i, .int n] ∧ 0 ≤ n, res := fun ds d => ∃ i n : Int, ds = [.int i, .int n] ∧ d = .int (pw i n.toNat) }
theorem cl_power {i n : Int} (h : 0 ≤ n) : Cal fd_power [.int i, .int n] (.int (pw i n.toNat)) := ⟨rfl, ⟨i, n, rfl, h⟩, rfl, fun d ⟨i', n', e, q⟩ => by cases e; exact q, fun _ _ q => q⟩
local macro_rules | `(tactic| walk_at "cal") => `(tactic| (apply cl_power; first | omega | decide | skip))
theorem ok_power (T : Txt K mg) : FnOk P w K mg base (L2.CX P w) 1 T.f_power T.fd_power ["one", "many"] (SpD K fd_power) := by
  refine fn_data (dvs := []) (kws := []) (N := N_power) (.inr T.F_power) sc_power rfl (fun cdv A outer s H E hr tk => ?_)
  refine ⟨_, (pss_cons (ps_set (i := 2) sc_power.nd rfl (Or.inl rfl) pe_int)
      (pss_cons (ps_set (i := 3) sc_power.nd rfl (Or.inl rfl) (pe_op g_mod (pv 0) (pe_glob (v := .int 97) rfl T.c_PRIME ⟨_, rfl⟩)))
      (pss_cons (ps_while (passes_of rfl) (pt_cmpR g_gt (pv 1) pe_int (nomark _)) (pss_cons (ps_asg (pe_callB g_divmod rfl T.b_divmod boot_divmod (pa_cons (pv 1) (pa_cons pe_int pa_nil))) (g_tup (K := K) (n := 2) rfl rfl (pgs_cons (pg_name (i := 1) sc_power.nd rfl (Or.inl rfl)) (pgs_cons (pg_name (i := 4) sc_power.nd rfl (Or.inl rfl)) pgs_nil))))
      (pss_cons (ps_if (pt_cmpR (g_eq (K := K) rfl hr) (pv 4) pe_int (nomark _)) (pss_one (ps_set (i := 2) sc_power.nd rfl (Or.inl rfl) (pe_op g_mod (pe_op g_mul (pv 2) (pv 3)) (pe_glob (v := .int 97) rfl T.c_PRIME ⟨_, rfl⟩)))) pss_nil)
      (pss_one (ps_set (i := 3) sc_power.nd rfl (Or.inl rfl) (pe_op g_mod (pe_op g_mul (pv 3) (pv 3)) (pe_glob (v := .int 97) rfl T.c_PRIME ⟨_, rfl⟩)))))))
      (pss_one (ps_ret (pv 2)))))), fun ds N' b hl hd acc => ?_⟩
  obtain ⟨i, n, rfl, hn⟩ := hd
  refine w_seq (w_asg (by walk_at "ev") (w_seq (w_asg (by walk_at "ev") (w_seq ?_))))
  refine w_while (fun m ds b' => ∃ (n' f bs : Int) (so : Sd), ds = [.dat (.int i), .dat (.int n'), .dat (.int f), .dat (.int bs), so] ∧ 0 ≤ n' ∧ m = n'.toNat ∧ (0 ≤ f ∧ f < 97) ∧ (0 ≤ bs ∧ bs < 97) ∧ (f * bs ^ n'.toNat) % 97 = pw i n.toNat ∧ b ≤ b') n.toNat ⟨n, 1, i % 97, .un, rfl, hn, rfl, by omega, by omega, ?_, by walk_at "b"⟩ ?_
  · have h1 : ∀ (y : Int) (k : Nat), ((y % 97) ^ k) % 97 = (y ^ k) % 97 := fun y k => by
      induction k with
      | zero => rw [Int.pow_zero, Int.pow_zero]
      | succ k ih => rw [Int.pow_succ, Int.pow_succ, Int.mul_emod, ih, Int.emod_emod_of_dvd _ (Int.dvd_refl 97), ← Int.mul_emod]
    rw [Int.one_mul]
    exact h1 _ _
  rintro m ds' b' ⟨n', f, bs, so, rfl, h0, rfl, hf, hb, he, hbb⟩
  refine ⟨_, by walk_at "ev", fun hc => ?_, fun hc => ?_⟩
  · have hc := of_decide_eq_true hc
    have st := pw_step f bs n' _ hc he
    refine w_seq (w_tg (by walk_at "ev") (by walk_at "tg") ?_)
    refine w_seq (w_if (by walk_at "ev") (fun h => ?_) (fun h => ?_))
    · refine w_asg (by walk_at "ev") ?_
      refine w_asg (by walk_at "ev") ?_
      rw [if_pos h] at st
      exact ⟨(n' / 2).toNat, by omega, n' / 2, _, _, _, rfl, by omega, rfl, by omega, by omega, st, hbb⟩
    · refine w_next ?_
      refine w_asg (by walk_at "ev") ?_
      rw [if_neg (by rw [h]; exact Bool.false_ne_true)] at st
      exact ⟨(n' / 2).toNat, by omega, n' / 2, _, _, _, rfl, by omega, rfl, by omega, by omega, st, hbb⟩
  · have hc := of_decide_eq_false hc
    have e : n' = 0 := by omega
    subst e
    refine w_ret (by walk_at "ev") ⟨hbb, i, n, rfl, ?_⟩
    rw [show (0 : Int).toNat = 0 from rfl, Int.pow_zero, Int.mul_one] at he
    rw [← he]
    congr 1
    omega

--OPT never 1
def fd_over : Fd := { n := 2, dom := fun ds => ∃ i j : Int, ds = [.int i, .int j] ∧ j % 97 ≠ 0 ∧ i.natAbs < 2 ^ 400, res := fun ds d => ∃ i j : Int, ds = [.int i, .int j] ∧ d = .int (i * pw j 95 % 97) }
theorem cl_over {i j : Int} (h : j % 97 ≠ 0) (h2 : i.natAbs < 2 ^ 400) : Cal fd_over [.int i, .int j] (.int (i * pw j 95 % 97)) := ⟨rfl, ⟨i, j, rfl, h, h2⟩, rfl, fun d ⟨i', n', e, q⟩ => by cases e; exact q, fun _ _ q => q⟩
theorem pw_lt (i : Int) (n : Nat) : (pw i n).natAbs < 2 ^ 7 := by
  unfold pw
  omega
local macro_rules | `(tactic| walk_at "cal") => `(tactic| (apply cl_over <;> first | assumption | omega | skip))
theorem ok_over (T : Txt K mg) : FnOk P w K mg base (L2.CX P w) 3 T.f_over T.fd_over ["one", "other"] (SpD K fd_over) := by
  refine fn_data (dvs := []) (kws := []) (N := N_over) (.inr T.F_over) sc_over rfl (fun cdv A outer s H E hr tk => ?_)
  refine ⟨_, (pss_cons (ps_if (pt_cmpR (g_eq (K := K) rfl hr) (pe_op g_mod (pv 1) (pe_glob (v := .int 97) rfl T.c_PRIME ⟨_, rfl⟩)) pe_int (nomark _)) (pss_one ps_never) pss_nil)
      (pss_one (ps_ret (pe_op g_mod (pe_op g_mul (pv 0) (pe_cl (m := 0) (ok_power T) (hr.mono (by decide)) rfl T.g_power T.k_power T.b_power (passD tk) (pa_cons (pv 1) (pa_cons (pe_op g_sub (pe_glob (v := .int 97) rfl T.c_PRIME ⟨_, rfl⟩) pe_int) pa_nil)) pk_nil)) (pe_glob (v := .int 97) rfl T.c_PRIME ⟨_, rfl⟩))))), fun ds N' b hl hd acc => ?_⟩
  obtain ⟨i, j, rfl, hj, hi⟩ := hd
  have hp := pw_lt j (97 - 2 : Int).toNat
  refine w_seq (w_if (by walk_at "ev") (fun h => absurd (of_decide_eq_true h) hj) (fun _ => w_next ?_))
  refine w_ret (by walk_at "ev") ?_
  exact ⟨by walk_at "b", i, j, rfl, rfl⟩

def fd_less : Fd := { n := 3, dom := fun ds => ∃ (n : Nat) (r o : List Int) (f : Int), ds = [.lst (iL r), .lst (iL o), .int f] ∧ RowN n r ∧ RowN n o ∧ n ≤ 1000 ∧ f.natAbs < 2 ^ 60, res := fun ds d => ∃ (r o : List Int) (f : Int), ds = [.lst (iL r), .lst (iL o), .int f] ∧ d = .lst (iL (lessV r o f)) }
theorem cl_less {n : Nat} {r o : List Int} {f : Int} (hr : RowN n r) (ho : RowN n o) (hn : n ≤ 1000) (hf : f.natAbs < 2 ^ 60) : Cal fd_less [.lst (iL r), .lst (iL o), .int f] (.lst (iL (lessV r o f))) := ⟨rfl, ⟨n, r, o, f, rfl, hr, ho, hn, hf⟩, rfl, fun d ⟨r', o', f', e, q⟩ => by
  injection e with e1 e
  injection e with e2 e
  injection e with e3 e
  injection e1 with e1
  injection e2 with e2
  injection e3 with e3
  rw [q, iL_inj e1, iL_inj e2, e3], fun _ _ q => q⟩
theorem ok_less (T : Txt K mg) : FnOk P w K mg base (L2.CX P w) 1 T.f_less T.fd_less ["row", "other", "factor"] (SpD K fd_less) := by
  refine fn_data (dvs := []) (kws := []) (N := N_less) (.inr T.F_less) sc_less rfl (fun cdv A outer s H E hr tk => ?_)
  refine ⟨_, (pss_one (ps_ret (pe_lc (own := [("one", 3), ("two", 4)]) rfl sc_less.nd (g_zip (K := K) rfl rfl T.b_zip (pa_cons (pv 0) (pa_cons (pv 1) pa_nil))) (blkOk_by (own := [("one", 3), ("two", 4)]) (N := N_less) (sc := defScope s_less) (by decide +kernel)) (fun _ _ _ _ _ => (g_tup (K := K) (n := 2) rfl rfl (pgs_cons (pg_name (i := 3) sc_less.nd rfl (Or.inl rfl)) (pgs_cons (pg_name (i := 4) sc_less.nd rfl (Or.inl rfl)) pgs_nil)))) (fun _ _ _ _ _ => pts_nil) (fun _ _ _ _ _ => (pe_op g_mod (pe_op g_sub (pv 3) (pe_op g_mul (pv 2) (pv 4))) (pe_glob (v := .int 97) rfl T.c_PRIME ⟨_, rfl⟩)))))), fun ds N' b hl hd acc => ?_⟩
  obtain ⟨n, r, o, f, rfl, hr, ho, hn, hf⟩ := hd
  refine w_ret (EvD.eq (ev_lc1 (fun i => .int ((r.getD i 0 - f * o.getD i 0) % 97)) (ei_zip (xs := iL r) (ys := iL o) (by walk_at "ev")) (by rw [iL_len, iL_len, hr.1, ho.1]; omega) fun i hi => ?_) ?_) ⟨by walk_at "b", r, o, f, rfl, rfl⟩
  · rw [iL_len, iL_len] at hi
    rw [getD_iL (by omega), getD_iL (by omega)]
    have hb := ho.at i
    have hm : CMulW f (o.getD i 0) := cmul_of 60 10 hf (by omega)
    generalize r.getD i 0 = x at *
    generalize o.getD i 0 = y at *
    exact ⟨_, by walk_at "tg", fun b0 => by walk_at "ev"⟩
  · rw [iL_len, iL_len]
    unfold lessV iL
    rw [List.map_map]
    rfl

def fd_cleared : Fd := { n := 2, dom := fun ds => ∃ (n : Nat) (rs : List (List Int)) (p : Nat), ds = [.lst (rL rs), .int p] ∧ (∀ r ∈ rs, RowN n r) ∧ n ≤ 1000 ∧ rs.length ≤ 1000 ∧ p < n, res := fun ds d => ∃ (rs : List (List Int)) (p : Nat), ds = [.lst (rL rs), .int p] ∧ d = .lst (rL (clrV rs p)) }
theorem cl_cleared {n p : Nat} {rs : List (List Int)} (hr : ∀ r ∈ rs, RowN n r) (hn : n ≤ 1000) (hl : rs.length ≤ 1000) (hp : p < n) : Cal fd_cleared [.lst (rL rs), .int p] (.lst (rL (clrV rs p))) := ⟨rfl, ⟨n, rs, p, rfl, hr, hn, hl, hp⟩, rfl, fun d ⟨r', p', e, q⟩ => by
  injection e with e1 e
  injection e with e2 e
  injection e1 with e1
  injection e2 with e2
  rw [q, rL_inj e1, show p = p' by omega], fun _ _ q => q⟩
theorem ok_cleared (T : Txt K mg) : FnOk P w K mg base (L2.CX P w) 4 T.f_cleared T.fd_cleared ["rows", "place"] (SpD K fd_cleared) := by
  refine fn_data (dvs := []) (kws := []) (N := N_cleared) (.inr T.F_cleared) sc_cleared rfl (fun cdv A outer s H E hr tk => ?_)
  refine ⟨_, (pss_cons (ps_for (passes_of rfl) rfl (g_enum (K := K) rfl rfl T.b_enumerate (pa_cons (pv 0) pa_nil)) (g_tup (K := K) (n := 2) rfl rfl (pgs_cons (pg_name (i := 2) sc_cleared.nd rfl (Or.inl rfl)) (pgs_cons (pg_name (i := 3) sc_cleared.nd rfl (Or.inr rfl)) pgs_nil))) (pss_one (ps_if (pt_cmpR (g_ne (K := K) rfl hr) (pe_ix (g_ix (K := K) rfl hr) (pv 3) (pv 1) (fun _ _ => rfl)) pe_int (nomark _)) (pss_cons (ps_set (i := 4) sc_cleared.nd rfl (Or.inr rfl) (pe_cl (m := 0) (ok_over T) (hr.mono (by decide)) rfl T.g_over T.k_over T.b_over (passD tk) (pa_cons pe_int (pa_cons (pe_ix (g_ix (K := K) rfl hr) (pv 3) (pv 1) (fun _ _ => rfl)) pa_nil)) pk_nil))
      (pss_one (ps_ret (pe_lc (own := [("other", 5)]) rfl sc_cleared.nd (g_list (K := K) rfl (pe_op (g_add (K := K) rfl) (pe_slice (g_slice (K := K) rfl) (pv 0) po_none (po_some (pv 2))) (pe_slice (g_slice (K := K) rfl) (pv 0) (po_some (pe_op (g_add (K := K) rfl) (pv 2) pe_int)) po_none))) (blkOk_by (own := [("other", 5)]) (N := N_cleared) (sc := defScope s_cleared) (by decide +kernel)) (fun _ _ _ _ _ => (pg_name (i := 5) sc_cleared.nd rfl (Or.inl rfl))) (fun _ _ _ _ _ => pts_nil) (fun _ _ _ _ _ => (pe_cl (m := 0) (ok_less T) (hr.mono (by decide)) rfl T.g_less T.k_less T.b_less pass_never (pa_cons (pv 5) (pa_cons (pv 3) (pa_cons (pe_op g_mul (pe_ix (g_ix (K := K) rfl hr) (pv 5) (pv 1) (fun _ _ => rfl)) (pv 4)) pa_nil))) pk_nil)))))) pss_nil)))
      (pss_one (ps_ret (pv 0)))), fun ds N' b hl hd acc => ?_⟩
  obtain ⟨n, rs, p, rfl, hr, hn, hl, hp⟩ := hd
  have row : ∀ i, i < rs.length → RowN n (rs.getD i []) := fun i hi => by
    rw [List.getD_eq_getElem?_getD, List.getElem?_eq_getElem hi]; exact hr _ (List.getElem_mem hi)
  refine w_seq (w_for allV (fun i ds b' => ∃ s2 s3 s4 s5 : Sd, ds = [.dat (.lst (rL rs)), .dat (.int p), s2, s3, s4, s5] ∧ (∀ j, j < i → (rs.getD j []).getD p 0 = 0) ∧ b' = fd_cleared.cost [.lst (rL rs), .int p] + b) (ei_enum (by walk_at "ev")) ⟨_, _, _, _, rfl, (fun j hj => absurd hj (Nat.not_lt_zero _)), by rfl⟩ ?_ ?_)
  · rintro i ds' b' hi ⟨s2, s3, s4, s5, rfl, hpre, rfl⟩
    rw [rL_len] at hi
    rw [getD_rL hi]
    have hR := row i hi
    have hat : L2.atI (iL (rs.getD i [])) (p : Int) = some (.int ((rs.getD i []).getD p 0)) := atI_iL (by rw [hR.1]; exact hp)
    refine ⟨_, by walk_at "tg", ?_⟩
    refine w_if (by walk_at "ev") (fun h => ?_) (fun h => w_next ?_)
    · have hne : (rs.getD i []).getD p 0 ≠ 0 := by simpa using h
      have hb := hR.at p
      have piv : pivI rs p = some i := by
        unfold pivI
        rw [List.findIdx?_eq_some_iff_getElem]
        refine ⟨hi, ?_, fun j hj => ?_⟩
        · rw [← getD_row hi]; exact decide_eq_true hne
        · have := hpre j hj; rw [getD_row (by omega)] at this; rw [this]; simp
      have co : Cal fd_over [.int 1, .int ((rs.getD i []).getD p 0)] (.int (invV ((rs.getD i []).getD p 0))) := cl_over (i := 1) (j := (rs.getD i []).getD p 0) (by omega) (by decide)
      have hib := inv_bd ((rs.getD i []).getD p 0)
      refine w_seq (w_asg (d := .int (invV ((rs.getD i []).getD p 0))) (ev_cal (es := [.int 1, .int ((rs.getD i []).getD p 0)]) (by walk_at "ev") co rfl) ?_)
      generalize hinv : invV ((rs.getD i []).getD p 0) = iv at *
      have e1 : ((i : Int) + 1) = ((i + 1 : Nat) : Int) := by push_cast; rfl
      have hcat : rL (rs.take i ++ rs.drop (i + 1)) = (rL rs).take i ++ (rL rs).drop (i + 1) := by unfold rL; rw [List.map_append, List.map_take, List.map_drop]
      have hlen : (rs.take i ++ rs.drop (i + 1)).length ≤ 1000 := by rw [List.length_append, List.length_take, List.length_drop]; omega
      refine w_ret (d := .lst (rL (clrV rs p))) (EvD.eq (ev_lc1 (fun k => .lst (iL (lessV ((rs.take i ++ rs.drop (i + 1)).getD k []) (rs.getD i []) (((rs.take i ++ rs.drop (i + 1)).getD k []).getD p 0 * iv)))) (ei_list (xs := rL (rs.take i ++ rs.drop (i + 1))) (EvD.eq (ev_op (x := .lst ((rL rs).take i)) (y := .lst ((rL rs).drop (i + 1))) (EvD.eq (by walk_at "ev") (by rw [slcTo])) (EvD.eq (by walk_at "ev") (by rw [e1, slcFrom])) (o_catL (by rw [← List.length_append, ← hcat, rL_len]; omega))) (by rw [hcat]))) (by rw [rL_len]; omega) fun k hk => ?_) ?_) ⟨by walk_at "b", rs, p, rfl, rfl⟩
      · rw [rL_len] at hk
        rw [getD_rL hk]
        have hO : RowN n ((rs.take i ++ rs.drop (i + 1)).getD k []) := by
          rw [List.getD_eq_getElem?_getD, List.getElem?_eq_getElem hk]
          have hm := List.getElem_mem hk
          rcases List.mem_append.mp hm with z | z
          · exact hr _ (List.mem_of_mem_take z)
          · exact hr _ (List.mem_of_mem_drop z)
        generalize (rs.take i ++ rs.drop (i + 1)).getD k [] = o at *
        have hob := hO.at p
        have hat2 : L2.atI (iL o) (p : Int) = some (.int (o.getD p 0)) := atI_iL (by rw [hO.1]; exact hp)
        have hm : CMulW (o.getD p 0) iv := cmul_of 10 10 (by omega) (by omega)
        have hsz : (o.getD p 0 * iv).natAbs < 2 ^ 60 := by
          rw [Int.natAbs_mul]
          have h1 : (o.getD p 0).natAbs ≤ 97 := by omega
          have h2 : iv.natAbs ≤ 97 := by omega
          exact Nat.lt_of_le_of_lt (Nat.mul_le_mul h1 h2) (by decide)
        have cl := cl_less hO hR hn hsz
        exact ⟨_, by walk_at "tg", fun b0 => ev_cal (es := [.lst (iL o), .lst (iL (rs.getD i [])), .int (o.getD p 0 * iv)]) (by walk_at "ev") cl rfl⟩
      · have ec : clrV rs p = (rs.take i ++ rs.drop (i + 1)).map fun o => lessV o (rs.getD i []) (o.getD p 0 * iv) := by
          unfold clrV
          rw [piv]
          show List.map _ _ = _
          rw [hinv]
        rw [ec, rL_len]
        unfold rL
        rw [List.map_map]
        congr 1
        apply List.ext_getElem
        · simp
        · intro k h1 h2
          have hk : k < (rs.take i ++ rs.drop (i + 1)).length := by simpa using h1
          rw [List.getElem_map, List.getElem_map, List.getElem_range, List.getD_eq_getElem?_getD, List.getElem?_eq_getElem hk]
          rfl
    · refine ⟨_, _, _, _, rfl, fun j hj => ?_, rfl⟩
      by_cases hji : j = i
      · subst hji; simpa using h
      · exact hpre j (by omega)
  · rintro ds' b' ⟨s2, s3, s4, s5, rfl, hpre, rfl⟩
    rw [rL_len] at hpre
    refine w_ret (by walk_at "ev") ⟨by walk_at "b", rs, p, rfl, ?_⟩
    have piv : pivI rs p = none := by
      unfold pivI
      rw [List.findIdx?_eq_none_iff]
      intro r hr'
      obtain ⟨j, hj, rfl⟩ := List.getElem_of_mem hr'
      have := hpre j hj
      rw [getD_row hj] at this
      rw [this]; simp
    unfold clrV
    rw [piv]

def optR : Option (List Int) → D
  | none => .non
  | some r => .lst (iL r)
def fd_row_at : Fd := { n := 2, dom := fun ds => ∃ (n : Nat) (rs : List (List Int)) (p : Nat), ds = [.lst (rL rs), .int p] ∧ (∀ r ∈ rs, RowN n r) ∧ rs.length ≤ 1000 ∧ p < n, res := fun ds d => ∃ (rs : List (List Int)) (p : Nat), ds = [.lst (rL rs), .int p] ∧ d = optR (rowAtV rs p) }
theorem cl_row_at {n p : Nat} {rs : List (List Int)} (hr : ∀ r ∈ rs, RowN n r) (hl : rs.length ≤ 1000) (hp : p < n) : Cal fd_row_at [.lst (rL rs), .int p] (optR (rowAtV rs p)) := ⟨rfl, ⟨n, rs, p, rfl, hr, hl, hp⟩, rfl, fun d ⟨r', p', e, q⟩ => by
  injection e with e1 e
  injection e with e2 e
  injection e1 with e1
  injection e2 with e2
  rw [q, rL_inj e1, show p = p' by omega], fun _ _ q => q⟩
theorem ok_row_at (T : Txt K mg) : FnOk P w K mg base (L2.CX P w) 1 T.f_row_at T.fd_row_at ["rows", "place"] (SpD K fd_row_at) := by
  refine fn_data (dvs := []) (kws := []) (N := N_row_at) (.inr T.F_row_at) sc_row_at rfl (fun cdv A outer s H E hr tk => ?_)
  refine ⟨_, (pss_cons (ps_for (passes_of rfl) rfl (g_list (K := K) rfl (pv 0)) (pg_name (i := 2) sc_row_at.nd rfl (Or.inl rfl)) (pss_one (ps_if (pt_cmpR (g_ne (K := K) rfl hr) (pe_ix (g_ix (K := K) rfl hr) (pv 2) (pv 1) (fun _ _ => rfl)) pe_int (nomark _)) (pss_one (ps_ret (pv 2))) pss_nil)))
      (pss_one (ps_ret pe_non))), fun ds N' b hl hd acc => ?_⟩
  obtain ⟨n, rs, p, rfl, hr, hl, hp⟩ := hd
  refine w_seq (w_for allV (fun i ds b' => ∃ s2 : Sd, ds = [.dat (.lst (rL rs)), .dat (.int p), s2] ∧ (∀ j, j < i → (rs.getD j []).getD p 0 = 0) ∧ b' = fd_row_at.cost [.lst (rL rs), .int p] + b) (ei_list (by walk_at "ev")) ⟨_, rfl, (fun j hj => absurd hj (Nat.not_lt_zero _)), by rfl⟩ ?_ ?_)
  · rintro i ds' b' hi ⟨s2, rfl, hpre, rfl⟩
    rw [rL_len] at hi
    rw [getD_rL hi]
    have hR : RowN n (rs.getD i []) := by
      rw [List.getD_eq_getElem?_getD, List.getElem?_eq_getElem hi]; exact hr _ (List.getElem_mem hi)
    have hat : L2.atI (iL (rs.getD i [])) (p : Int) = some (.int ((rs.getD i []).getD p 0)) := atI_iL (by rw [hR.1]; exact hp)
    refine ⟨_, tg_name, ?_⟩
    refine w_if (by walk_at "ev") (fun h => ?_) (fun h => w_next ?_)
    · have hne : (rs.getD i []).getD p 0 ≠ 0 := by simpa using h
      refine w_ret (by walk_at "ev") ⟨by walk_at "b", rs, p, rfl, ?_⟩
      have e : rowAtV rs p = some (rs.getD i []) := by
        unfold rowAtV
        rw [List.find?_eq_some_iff_getElem]
        refine ⟨decide_eq_true hne, i, hi, (getD_row hi).symm, fun j hj => ?_⟩
        have := hpre j hj
        rw [getD_row (Nat.lt_trans hj hi)] at this
        rw [this]; simp
      rw [e]
      rfl
    · refine ⟨_, rfl, fun j hj => ?_, rfl⟩
      by_cases hji : j = i
      · subst hji; simpa using h
      · exact hpre j (by omega)
  · rintro ds' b' ⟨s2, rfl, hpre, rfl⟩
    rw [rL_len] at hpre
    refine w_ret (by walk_at "ev") ⟨by walk_at "b", rs, p, rfl, ?_⟩
    have e : rowAtV rs p = none := by
      unfold rowAtV
      rw [List.find?_eq_none]
      intro r hr'
      obtain ⟨j, hj, rfl⟩ := List.getElem_of_mem hr'
      have := hpre j hj
      rw [getD_row hj] at this
      rw [this]; simp
    rw [e]
    rfl

def fd_is_whole : Fd := { n := 1, dom := fun ds => ∃ d : D, ds = [d] ∧ plainK d = true, res := fun ds r => ∃ d : D, ds = [d] ∧ r = .bl (isI d) }
theorem cl_is_wholeD {d : D} (h : plainK d = true) : Cal fd_is_whole [d] (.bl (isI d)) := ⟨rfl, ⟨d, rfl, h⟩, rfl, fun r ⟨d', e, q⟩ => by cases e; exact q, fun _ _ q => q⟩
theorem cl_is_whole {i : Int} : Cal fd_is_whole [.int i] (.bl true) := cl_is_wholeD (d := .int i) rfl
local macro_rules | `(tactic| walk_at "cal") => `(tactic| first | exact cl_is_whole | (apply cl_is_wholeD; first | assumption | skip))
theorem ok_is_whole (T : Txt K mg) : FnOk P w K mg base (L2.CX P w) 1 T.f_is_whole T.fd_is_whole ["thing"] (SpD K fd_is_whole) := by
  refine fn_data (dvs := []) (kws := []) (N := N_is_whole) (.inr T.F_is_whole) sc_is_whole rfl (fun cdv A outer s H E hr tk => ?_)
  refine ⟨_, (pss_one (ps_ret (pe_and (pe_callB (g_isi (K := K) rfl) rfl T.b_isinstance boot_isinstance (pa_cons (pv 0) (pa_cons (pe_bltn (v := .ty "int") rfl T.b_int boot_int rfl) pa_nil))) (pe_one (pe_not (pe_callB (g_isi (K := K) rfl) rfl T.b_isinstance boot_isinstance (pa_cons (pv 0) (pa_cons (pe_bltn (v := .ty "bool") rfl T.b_bool boot_bool rfl) pa_nil)))))))), fun ds N' b hl hd acc => ?_⟩
  obtain ⟨d, rfl, hk⟩ := hd
  cases d with
  | non => exact w_ret (d := .bl false) (EvD.eq (by walk_at "ev") (by rfl)) ⟨by walk_at "b", _, rfl, rfl⟩
  | bl c => exact w_ret (d := .bl false) (EvD.eq (by walk_at "ev") (by rfl)) ⟨by walk_at "b", _, rfl, rfl⟩
  | int c => exact w_ret (d := .bl true) (EvD.eq (by walk_at "ev") (by rfl)) ⟨by walk_at "b", _, rfl, rfl⟩
  | str c => exact w_ret (d := .bl false) (EvD.eq (by walk_at "ev") (by rfl)) ⟨by walk_at "b", _, rfl, rfl⟩
  | lst c => exact w_ret (d := .bl false) (EvD.eq (by walk_at "ev") (by rfl)) ⟨by walk_at "b", _, rfl, rfl⟩
  | tup c => exact w_ret (d := .bl false) (EvD.eq (by walk_at "ev") (by rfl)) ⟨by walk_at "b", _, rfl, rfl⟩
  | dct c => exact w_ret (d := .bl false) (EvD.eq (by walk_at "ev") (by rfl)) ⟨by walk_at "b", _, rfl, rfl⟩
  | _ => cases hk

--OPT tuples thing
def fd_is_shape : Fd := { n := 1, dom := fun ds => ∃ d : D, ds = [d] ∧ plainT d, res := fun ds r => ∃ d : D, ds = [d] ∧ r = .bl (isShape d) }
theorem cl_is_shapeD {d : D} (h : plainT d) : Cal fd_is_shape [d] (.bl (isShape d)) := ⟨rfl, ⟨d, rfl, h⟩, rfl, fun r ⟨d', e, q⟩ => by cases e; exact q, fun _ _ q => q⟩
theorem cl_is_shape {g s u : Int} (h : ShOk g s u) : Cal fd_is_shape [shD g s u] (.bl true) := by
  have q := cl_is_shapeD (plainT_sh g s u)
  rw [isShape_ok h] at q
  exact q
local macro_rules | `(tactic| walk_at "cal") => `(tactic| first | (apply cl_is_shape; assumption) | (apply cl_is_shapeD; first | assumption | skip))
theorem ok_is_shape (T : Txt K mg) : FnOk P w K mg base (L2.CX P w) 2 T.f_is_shape T.fd_is_shape ["thing"] (SpD K fd_is_shape) := by
  have kP_MARKS := T.p_MARKS
  have kD_MARKS := T.q_MARKS
  refine fn_data (dvs := []) (kws := []) (N := N_is_shape) (.inr T.F_is_shape) sc_is_shape rfl (fun cdv A outer s H E hr tk => ?_)
  refine ⟨_, (pss_cons (ps_if (PW.pt (pw_or (pt_not (g_tru (K := K) rfl (pe_callB (g_isi (K := K) rfl) rfl T.b_isinstance boot_isinstance (pa_cons (pv 0) (pa_cons (pe_bltn (v := .ty "tuple") rfl T.b_tuple boot_tuple rfl) pa_nil))) (fun _ => rfl))) (pw_or (pt_cmpR (g_ne (K := K) rfl hr) (pe_callB (g_len (K := K) rfl) rfl T.b_len boot_len (pa_cons (pv 0) pa_nil)) pe_int (nomark _)) (pw_or1 (pt_not (g_tru (K := K) rfl (pe_callB (g_all (K := K) rfl rfl) rfl T.b_all boot_all (pa_cons (pe_lc (own := [("one", 4)]) rfl sc_is_shape.nd (g_tuple (K := K) rfl (pv 0)) (blkOk_by (own := [("one", 4)]) (N := N_is_shape) (sc := defScope s_is_shape) (by decide +kernel)) (fun _ _ _ _ _ => (pg_name (i := 4) sc_is_shape.nd rfl (Or.inl rfl))) (fun _ _ _ _ _ => pts_nil) (fun _ _ _ _ _ => (pe_cl (m := 0) (ok_is_whole T) (hr.mono (by decide)) rfl T.g_is_whole T.k_is_whole T.b_is_whole pass_never (pa_cons (pv 4) pa_nil) pk_nil))) pa_nil)) (fun _ => rfl))))))) (pss_one (ps_ret pe_bl)) pss_nil)
      (pss_cons (ps_asg (pv 0) (g_tup (K := K) (n := 3) rfl rfl (pgs_cons (pg_name (i := 1) sc_is_shape.nd rfl (Or.inl rfl)) (pgs_cons (pg_name (i := 2) sc_is_shape.nd rfl (Or.inl rfl)) (pgs_cons (pg_name (i := 3) sc_is_shape.nd rfl (Or.inl rfl)) pgs_nil)))))
      (pss_one (ps_ret (pe_and (pe_chain g_le g_le pe_int (pv 1) (pe_callB (g_len (K := K) rfl) rfl T.b_len boot_len (pa_cons (pe_glob (v := .ref T.t_MARKS) rfl T.c_MARKS rfl) pa_nil))) (pe_and (pe_chain g_le g_le pe_int (pv 2) (pe_glob (v := .int 4) rfl T.c_MOST_SIZE ⟨_, rfl⟩)) (pe_one (pe_chain g_le g_le pe_int (pv 3) (pe_glob (v := .int 2) rfl T.c_MOST_SUMS ⟨_, rfl⟩))))))))), fun ds N' b hl hd acc => ?_⟩
  obtain ⟨d, rfl, hd⟩ := hd
  have fin : ∀ c : Bool, c = isShape d → fd_is_shape.res [d] (.bl c) := fun c e => ⟨d, rfl, by rw [e]⟩
  by_cases ht : ∃ xs, d = .tup xs
  · obtain ⟨xs, rfl⟩ := ht
    obtain ⟨hl, hk⟩ := hd
    refine w_seq (w_if (c := !decide (xs.length = 3) || !xs.all isI) (EvT.eq (et_or (c := false) (et_not (et_tru (d := .bl true) (by walk_at "ev") rfl)) fun _ => et_or (c := !decide (xs.length = 3)) (EvT.eq (c := !decide (((xs.length : Nat) : Int) = 3)) (by walk_at "ev") ?_) fun _ => et_not (et_tru (d := .bl (xs.all isI)) (EvD.eq (ev_cb (ea_cons (EvD.wk (ev_lc1 (fun i => .bl (isI (xs.getD i .non))) (ei_tup (by walk_at "ev")) hl fun i hi => ⟨_, tg_name, fun b0 => ?_⟩)) ea_nil) (c_all (bs := xs.map isI) ?_)) ?_) rfl)) (by rfl)) (fun h1 => ?_) (fun h1 => w_next ?_))
    · by_cases e : xs.length = 3
      · rw [decide_eq_true e, decide_eq_true (by omega)]
      · rw [decide_eq_false e, decide_eq_false (by omega)]
    · have q : plainK (xs.getD i .non) = true := by
        rw [List.getD_eq_getElem?_getD, List.getElem?_eq_getElem hi]
        exact hk _ (List.getElem_mem hi)
      exact ev_cal (by walk_at "ev") (cl_is_wholeD q) rfl
    · apply List.ext_getElem
      · simp
      · intro i h1 h2
        have hi : i < xs.length := by simpa using h1
        simp [List.getD_eq_getElem?_getD, hi]
    · rw [List.all_map]; rfl
    · refine w_ret (d := .bl false) (by walk_at "ev") ⟨by walk_at "b", fin _ ?_⟩
      unfold isShape
      split
      · rename_i g s u e
        injection e with e
        rw [e] at h1
        simp [isI] at h1
      · rfl
    · match xs, hl, hk, h1 with
      | [a, b', c], _, _, h1 =>
        simp only [List.all_cons, List.all_nil, Bool.and_true, List.length_cons, List.length_nil, Bool.or_eq_false_iff, Bool.not_eq_false', Bool.and_eq_true] at h1
        obtain ⟨_, ha, hb, hc⟩ := h1
        have toi : ∀ x : D, isI x = true → ∃ i, x = .int i := fun x h => by cases x <;> first | exact ⟨_, rfl⟩ | cases h
        obtain ⟨g, rfl⟩ := toi a ha
        obtain ⟨s, rfl⟩ := toi b' hb
        obtain ⟨u, rfl⟩ := toi c hc
        refine w_seq (w_tg (by walk_at "ev") (by walk_at "tg") ?_)
        refine w_ret (d := .bl (shB g s u)) (EvD.eq (by walk_at "ev") (by rfl)) ⟨by walk_at "b", fin _ rfl⟩
      | [], _, _, h1 => simp at h1
      | [a], _, _, h1 => simp at h1
      | [a, b'], _, _, h1 => simp at h1
      | a :: b' :: c :: e :: r, _, _, h1 => simp at h1
  · have hk : plainK d = true := by
      cases d <;> first | exact hd | exact absurd ⟨_, rfl⟩ ht
    have hb0 : isShape d = false := by
      cases d <;> first | rfl | exact absurd ⟨_, rfl⟩ ht
    refine w_seq (w_if (c := true) (EvT.eq (et_or (c := true) (e := true) (et_not (et_tru (d := .bl false) ?_ rfl)) fun h => nomatch h) rfl) (fun _ => ?_) (fun h => nomatch h))
    · cases d with
      | tup xs => exact absurd ⟨_, rfl⟩ ht
      | non => walk_at "ev"
      | bl c => walk_at "ev"
      | int c => walk_at "ev"
      | str c => walk_at "ev"
      | lst c => walk_at "ev"
      | dct c => walk_at "ev"
      | _ => cases hk
    · exact w_ret (d := .bl false) (by walk_at "ev") ⟨by walk_at "b", fin _ hb0.symm⟩

--OPT fdarg T.t_NoShape
def fd_need_shape (C : Addr) : Fd := { n := 1, dom := fun ds => ∃ d : D, ds = [d] ∧ plainT d, res := fun ds r => ∃ d : D, ds = [d] ∧ isShape d = true ∧ r = .non, exn := fun ds X fs => ∃ d : D, ds = [d] ∧ exS C d X fs }
theorem cl_need_shape {C : Addr} {g s u : Int} (h : ShOk g s u) : Cal (fd_need_shape C) [shD g s u] .non := ⟨rfl, ⟨_, rfl, plainT_sh g s u⟩, rfl, fun d ⟨d', e, q1, q2⟩ => q2, fun X fs ⟨d', e, q⟩ => by
  cases e
  exact exS_no h q⟩
local macro_rules | `(tactic| walk_at "cal") => `(tactic| (apply cl_need_shape; first | assumption | skip))
theorem ok_need_shape (T : Txt K mg) : FnOk P w K mg base (L2.CX P w) 3 T.f_need_shape T.fd_need_shape ["thing"] (SpD K (fd_need_shape T.t_NoShape)) := by
  refine fn_data (dvs := []) (kws := []) (N := N_need_shape) (.inr T.F_need_shape) sc_need_shape rfl (fun cdv A outer s H E hr tk => ?_)
  refine ⟨_, (pss_one (ps_if (pt_not (g_tru (K := K) rfl (pe_cl (m := 0) (ok_is_shape T) (hr.mono (by decide)) rfl T.g_is_shape T.k_is_shape T.b_is_shape (passD tk) (pa_cons (pv 0) pa_nil) pk_nil) (fun _ => rfl))) (pss_one (g_raise1 (K := K) rfl rfl (x_NoShape T) (hr.mono (by decide)) tk (by rfl) T.g_NoShape (pv 0))) pss_nil)), fun ds N' b hl hd acc => ?_⟩
  obtain ⟨d, rfl, hp⟩ := hd
  refine w_if (c := !isShape d) (et_not (et_tru (d := .bl (isShape d)) (by walk_at "ev") rfl)) (fun h => ?_) (fun h => w_next ?_)
  · exact w_raise1 acc T.o_NoShape T.n_NoShape (by walk_at "ev") ⟨by walk_at "b", d, rfl, by simpa using h, rfl, rfl⟩
  · exact ⟨by walk_at "b", ⟨d, rfl, by simpa using h, rfl⟩, rfl⟩

--OPT fdarg T.t_NoShape
def fd_count (C : Addr) : Fd := { n := 1, dom := fun ds => ∃ d : D, ds = [d] ∧ plainT d, res := fun ds r => ∃ g s u : Nat, ds = [shD g s u] ∧ ShOk g s u ∧ r = .int ((g : Int) * ((s : Int) + 1) + u), exn := fun ds X fs => ∃ d : D, ds = [d] ∧ exS C d X fs }
theorem cl_count {C : Addr} {g s u : Int} (h : ShOk g s u) : Cal (fd_count C) [shD g s u] (.int (g * (s + 1) + u)) := ⟨rfl, ⟨_, rfl, plainT_sh g s u⟩, rfl, fun d ⟨g', s', u', e, q1, q2⟩ => by cases e; exact q2, fun X fs ⟨d', e, q⟩ => by
  cases e
  exact exS_no h q⟩
local macro_rules | `(tactic| walk_at "cal") => `(tactic| (apply cl_count; first | assumption | skip))
theorem ok_count (T : Txt K mg) : FnOk P w K mg base (L2.CX P w) 4 T.f_count T.fd_count ["shape"] (SpD K (fd_count T.t_NoShape)) := by
  refine fn_data (N := N_count) (.inl T.F_count) sc_count rfl (fun cdv A outer s H E hr tk => ?_)
  refine ⟨_, (pss_cons (ps_expr (pe_cl (m := 0) (ok_need_shape T) (hr.mono (by decide)) rfl T.g_need_shape T.k_need_shape T.b_need_shape (passD tk) (pa_cons (pv 0) pa_nil) pk_nil))
      (pss_cons (ps_asg (pv 0) (g_tup (K := K) (n := 3) rfl rfl (pgs_cons (pg_name (i := 1) sc_count.nd rfl (Or.inl rfl)) (pgs_cons (pg_name (i := 2) sc_count.nd rfl (Or.inl rfl)) (pgs_cons (pg_name (i := 3) sc_count.nd rfl (Or.inl rfl)) pgs_nil)))))
      (pss_one (ps_ret (pe_op (g_add (K := K) rfl) (pe_op g_mul (pv 1) (pe_op (g_add (K := K) rfl) (pv 2) pe_int)) (pv 3)))))), fun ds N' b hl hd acc => ?_⟩
  obtain ⟨d, rfl, hp⟩ := hd
  refine w_seq (ws_drop (b' := (fd_count T.t_NoShape).cost [d] + b) (evs_calX (es := [d]) (by walk_at "ev") rfl rfl ⟨d, rfl, hp⟩ (Nat.le_of_eq (Nat.zero_add _)) acc (fun z => nomatch z) fun C x ⟨d', e, q⟩ => by cases e; exact ⟨Nat.le_add_left _ _, d, rfl, q⟩) fun r ⟨d', e, h, _⟩ => ?_)
  cases e
  obtain ⟨g, s, u, rfl, hs⟩ := isShape_inv h
  obtain ⟨⟨g0, g1⟩, ⟨s0, s1⟩, u0, u1⟩ := id hs
  refine w_seq (w_tg (by walk_at "ev") (by walk_at "tg") ?_)
  refine w_ret (by walk_at "ev") ?_
  exact ⟨by walk_at "b", g, s, u, rfl, hs, rfl⟩

def fd_is_place : Fd := { n := 2, dom := fun ds => ∃ (t : D) (g s u : Nat), ds = [t, shD g s u] ∧ ShOk g s u ∧ plainK t = true, res := fun ds d => ∃ (t : D) (g s u : Nat), ds = [t, shD g s u] ∧ d = .bl (isPl g s u t) }
theorem cl_is_place {t : D} {g s u : Nat} (h : ShOk g s u) (ht : plainK t = true) : Cal fd_is_place [t, shD g s u] (.bl (isPl g s u t)) := ⟨rfl, ⟨t, g, s, u, rfl, h, ht⟩, rfl, fun d ⟨t', g', s', u', e, q⟩ => by
  injection e with e1 e
  injection e with e2 e
  obtain ⟨rfl, rfl, rfl⟩ := shD_inj e2
  rw [q, e1], fun _ _ q => q⟩
local macro_rules | `(tactic| walk_at "cal") => `(tactic| (apply cl_is_place <;> first | assumption | skip))
theorem ok_is_place (T : Txt K mg) : FnOk P w K mg base (L2.CX P w) 5 T.f_is_place T.fd_is_place ["thing", "shape"] (SpD K fd_is_place) := by
  refine fn_data (dvs := []) (kws := []) (N := N_is_place) (.inr T.F_is_place) sc_is_place rfl (fun cdv A outer s H E hr tk => ?_)
  refine ⟨_, (pss_one (ps_ret (pe_and (pe_cl (m := 0) (ok_is_whole T) (hr.mono (by decide)) rfl T.g_is_whole T.k_is_whole T.b_is_whole (passD tk) (pa_cons (pv 0) pa_nil) pk_nil) (pe_one (pe_chain g_le g_lt pe_int (pv 0) (pe_cl0 (m := 1) (ok_count T) (hr.mono (by decide)) rfl T.g_count T.k_count T.b_count_0_shape (passD tk) (pk_cons (pv 1) pk_nil))))))), fun ds N' b hl hd acc => ?_⟩
  obtain ⟨t, g, s, u, rfl, h, hk⟩ := hd
  cases t with
  | int c => exact w_ret (d := .bl (isPl g s u (.int c))) (EvD.eq (by walk_at "ev") (by rfl)) ⟨by walk_at "b", _, g, s, u, rfl, rfl⟩
  | _ => first | exact w_ret (d := .bl false) (EvD.eq (ev_andV (c := false) (e := false) (ev_cal (ea_cons (by walk_at "ev") ea_nil) (cl_is_wholeD hk) rfl) fun h => nomatch h) (by rfl)) ⟨by walk_at "b", _, g, s, u, rfl, rfl⟩ | cases hk

--OPT fdarg T.t_NoPlace
/-- the first of ts that is no place -/
def noPl (g s u : Nat) (C : Addr) (ts : List D) (X : Addr) (fs : List (Str × D)) : Prop := ∃ (i : Nat) (t : D), ts[i]? = some t ∧ (∀ (j : Nat) (t' : D), j < i → ts[j]? = some t' → isPl g s u t' = true) ∧ isPl g s u t = false ∧ exP C t X fs
def fd_need_places (C : Addr) : Fd := { n := 2, dom := fun ds => ∃ (ts : List D) (g s u : Nat), ds = [.lst ts, shD g s u] ∧ ShOk g s u ∧ ts.length ≤ 100000 ∧ ∀ t ∈ ts, plainK t = true, res := fun ds d => ∃ (ts : List D) (g s u : Nat), ds = [.lst ts, shD g s u] ∧ (∀ t ∈ ts, isPl g s u t = true) ∧ d = .non, exn := fun ds X fs => ∃ (ts : List D) (g s u : Nat), ds = [.lst ts, shD g s u] ∧ noPl g s u C ts X fs }
theorem ok_need_places (T : Txt K mg) : FnOk P w K mg base (L2.CX P w) 6 T.f_need_places T.fd_need_places ["things", "shape"] (SpD K (fd_need_places T.t_NoPlace)) := by
  refine fn_data (dvs := []) (kws := []) (N := N_need_places) (.inr T.F_need_places) sc_need_places rfl (fun cdv A outer s H E hr tk => ?_)
  refine ⟨_, (pss_one (ps_for (passes_of rfl) rfl (g_list (K := K) rfl (pv 0)) (pg_name (i := 2) sc_need_places.nd rfl (Or.inl rfl)) (pss_one (ps_if (pt_not (g_tru (K := K) rfl (pe_cl (m := 0) (ok_is_place T) (hr.mono (by decide)) rfl T.g_is_place T.k_is_place T.b_is_place (passD tk) (pa_cons (pv 2) (pa_cons (pv 1) pa_nil)) pk_nil) (fun _ => rfl))) (pss_one (g_raise1 (K := K) rfl rfl (x_NoPlace T) (hr.mono (by decide)) tk (by rfl) T.g_NoPlace (pv 2))) pss_nil)))), fun ds N' b hl hd acc => ?_⟩
  obtain ⟨ts, g, s, u, rfl, h, hl, hk⟩ := hd
  refine w_for allV (fun i ds b' => ∃ s2 : Sd, ds = [.dat (.lst ts), .dat (shD g s u), s2] ∧ (∀ (j : Nat) (t' : D), j < i → ts[j]? = some t' → isPl g s u t' = true) ∧ b' = (fd_need_places T.t_NoPlace).cost [.lst ts, shD g s u] + b) (ei_list (by walk_at "ev")) ⟨_, rfl, (fun j t' h => absurd h (Nat.not_lt_zero _)), by rfl⟩ ?_ ?_
  · rintro i ds' b' hi ⟨s2, rfl, hpre, rfl⟩
    have e : ts.getD i .non = ts[i] := by rw [List.getD_eq_getElem?_getD, List.getElem?_eq_getElem hi]; rfl
    have hp : plainK ts[i] = true := hk _ (List.getElem_mem hi)
    have hi? : ts[i]? = some ts[i] := List.getElem?_eq_getElem hi
    rw [e]
    generalize ts[i] = t at *
    refine ⟨_, tg_name, ?_⟩
    refine w_if (c := !isPl g s u t) (et_not (et_tru (ev_cal (p := false) (by walk_at "ev") (cl_is_place h hp) rfl) rfl)) (fun h1 => ?_) (fun h1 => w_next ?_)
    · exact w_raise1 acc T.o_NoPlace T.n_NoPlace (by walk_at "ev") ⟨by walk_at "b", ts, g, s, u, rfl, i, t, hi?, hpre, by simpa using h1, rfl, rfl⟩
    · refine ⟨_, rfl, fun j t' hj ht => ?_, rfl⟩
      by_cases hji : j = i
      · subst hji
        rw [hi?] at ht
        cases ht
        simpa using h1
      · exact hpre j t' (by omega) ht
  · rintro ds' b' ⟨s2, rfl, hpre, rfl⟩
    refine ⟨by walk_at "b", ⟨ts, g, s, u, rfl, fun t ht => ?_, rfl⟩, rfl⟩
    obtain ⟨j, hj, rfl⟩ := List.getElem_of_mem ht
    exact hpre j _ hj (List.getElem?_eq_getElem hj)

--OPT fdarg T.t_NoShape
theorem flat2_len (m : Nat) (f : Nat → Nat → D) : ∀ i, (flat2 (fun _ => m) (fun _ _ => true) f i).length = i * m
  | 0 => by simp [flat2]
  | i + 1 => by
    rw [flat2_step, List.length_append, flat2_len m f i, Nat.add_mul, Nat.one_mul, List.length_map, List.filter_eq_self.mpr (fun _ _ => rfl), List.length_range]
def fd_data_places (C : Addr) : Fd := { n := 1, dom := fun ds => ∃ d : D, ds = [d] ∧ plainT d, res := fun ds r => ∃ g s u : Nat, ds = [shD g s u] ∧ ShOk g s u ∧ r = .lst (iL (dataP g s)), exn := fun ds X fs => ∃ d : D, ds = [d] ∧ exS C d X fs, own := true }
theorem cl_data_places {C : Addr} {g s u : Nat} (h : ShOk g s u) : Cal (fd_data_places C) [shD g s u] (.lst (iL (dataP g s))) := ⟨rfl, ⟨_, rfl, plainT_sh g s u⟩, rfl, fun d ⟨g', s', u', e, q1, q2⟩ => by
  injection e with e2 e
  obtain ⟨rfl, rfl, rfl⟩ := shD_inj e2
  exact q2, fun X fs ⟨d', e, q⟩ => by
  cases e
  exact exS_no h q⟩
local macro_rules | `(tactic| walk_at "cal") => `(tactic| (apply cl_data_places; first | assumption | skip))
theorem ok_data_places (T : Txt K mg) : FnOk P w K mg base (L2.CX P w) 4 T.f_data_places T.fd_data_places ["shape"] (SpD K (fd_data_places T.t_NoShape)) := by
  refine fn_data (N := N_data_places) (.inl T.F_data_places) sc_data_places rfl (fun cdv A outer s H E hr tk => ?_)
  refine ⟨_, (pss_cons (ps_expr (pe_cl (m := 0) (ok_need_shape T) (hr.mono (by decide)) rfl T.g_need_shape T.k_need_shape T.b_need_shape (passD tk) (pa_cons (pv 0) pa_nil) pk_nil))
      (pss_cons (ps_asg (pv 0) (g_tup (K := K) (n := 3) rfl rfl (pgs_cons (pg_name (i := 1) sc_data_places.nd rfl (Or.inl rfl)) (pgs_cons (pg_name (i := 2) sc_data_places.nd rfl (Or.inr rfl)) (pgs_cons (pg_name (i := 3) sc_data_places.nd rfl (Or.inl rfl)) pgs_nil)))))
      (pss_one (ps_ret (pe_lc2 (own := [("group", 4), ("at", 5)]) (vs1 := [5]) rfl sc_data_places.nd (pi_range1 rfl T.b_range (pa_cons (pv 1) pa_nil)) (blkOk_by (own := [("group", 4), ("at", 5)]) (N := N_data_places) (sc := defScope s_data_places) (by decide +kernel)) (by decide) (fun _ _ _ _ _ => (pg_name (i := 4) sc_data_places.nd rfl (Or.inl rfl))) (fun _ _ _ _ _ => pts_nil) (fun _ _ _ _ _ => (pi_range1 rfl T.b_range (pa_cons (pv 2) pa_nil))) (fun _ _ _ _ _ => (pg_name (i := 5) sc_data_places.nd rfl (Or.inl rfl))) (fun _ _ _ _ _ => pts_nil) (fun _ _ _ _ _ => (pe_op (g_add (K := K) rfl) (pe_op g_mul (pv 4) (pe_op (g_add (K := K) rfl) (pv 2) pe_int)) (pv 5)))))))), fun ds N' b hl hd acc => ?_⟩
  obtain ⟨d, rfl, hp⟩ := hd
  refine w_seq (ws_drop (b' := (fd_data_places T.t_NoShape).cost [d] + b) (evs_calX (es := [d]) (by walk_at "ev") rfl rfl ⟨d, rfl, hp⟩ (Nat.le_of_eq (Nat.zero_add _)) acc (fun z => nomatch z) fun C x ⟨d', e, q⟩ => by cases e; exact ⟨Nat.le_add_left _ _, d, rfl, q⟩) fun r ⟨d', e, h', _⟩ => ?_)
  cases e
  obtain ⟨g', s', u', rfl, h⟩ := isShape_inv h'
  obtain ⟨⟨g0, g1⟩, ⟨s0, s1⟩, u0, u1⟩ := id h
  have hgi : ((g' : Int)).toNat = g' := Int.toNat_natCast g'
  have hsi : ((s' : Int)).toNat = s' := Int.toNat_natCast s'
  refine w_seq ?_
  refine w_tg (by walk_at "ev") (by walk_at "tg") ?_
  refine w_retE (eo_lc2 (fun _ => ((s' : Int)).toNat) (fun _ j => .int (j : Int)) (fun _ _ => true) (fun i j => .int ((i : Int) * ((s' : Int) + 1) + (j : Int))) (ei_r1 (p := false) (n := (g' : Int)) (by walk_at "ev") (by omega)) ?_ fun i hi => ⟨_, tg_name, ?_, fun b0 => ei_r1 (p := false) (n := (s' : Int)) (by walk_at "ev") (by omega), fun j hj => ⟨_, tg_name, fun b0 => ⟨et_yes, fun _ => by walk_at "ev"⟩⟩⟩) ?_
  · intro i j hi hj
    rw [List.length_append, flat2_len, List.length_map, List.filter_eq_self.mpr (fun _ _ => rfl), List.length_range]
    have q : i * ((s' : Int)).toNat ≤ 4 * 4 := Nat.mul_le_mul (by omega) (by omega)
    omega
  · intro x hx
    have q := List.all_eq_true.mp (show (List.all _ fun s => !isOwn s) = true from rfl) x hx
    simpa using q
  · refine ⟨by walk_at "b", g', s', u', rfl, h, ?_⟩
    rw [hgi, hsi]
    congr 1
    unfold flat2 dataP iL
    rw [List.map_flatMap]
    congr 1
    funext i
    rw [List.filter_eq_self.mpr (fun _ _ => rfl), List.map_map]
    rfl

--OPT fdarg T.t_NoShape T.t_NoPlace
/-- a place's kind -/
def kindD (g s p : Int) : D :=
  if g ≤ p / (s + 1) then .tup [.str "over", .int (p - g * (s + 1) + 1)]
  else if p % (s + 1) = s then .tup [.str "local", .int (p / (s + 1))]
  else .tup [.str "data", .int (p / (s + 1)), .int (p % (s + 1))]
/-- refused: no shape, or no place of the shape -/
def exSP (C1 C2 : Addr) (t d : D) (X : Addr) (fs : List (Str × D)) : Prop := exS C1 d X fs ∨ ∃ g s u : Nat, d = shD g s u ∧ ShOk g s u ∧ isPl g s u t = false ∧ exP C2 t X fs
theorem isPl_inv {g s u : Int} {t : D} (h : isPl g s u t = true) : ∃ p : Int, t = .int p ∧ 0 ≤ p ∧ p < g * (s + 1) + u := by
  unfold isPl at h
  split at h
  · rename_i i
    rw [Bool.and_eq_true] at h
    exact ⟨i, rfl, of_decide_eq_true h.1, of_decide_eq_true h.2⟩
  · cases h
theorem isPl_ok {g s u p : Int} (h0 : 0 ≤ p) (h1 : p < g * (s + 1) + u) : isPl g s u (.int p) = true := by
  show (decide (0 ≤ p) && decide (p < g * (s + 1) + u)) = true
  rw [decide_eq_true h0, decide_eq_true h1]; rfl
theorem exSP_no {C1 C2 X : Addr} {fs : List (Str × D)} {p : Int} {g s u : Nat} (h : ShOk g s u) (h0 : 0 ≤ p) (h1 : p < (g : Int) * ((s : Int) + 1) + u) : ¬ exSP C1 C2 (.int p) (shD g s u) X fs := by
  rintro (z | ⟨g', s', u', e, _, z, _⟩)
  · exact exS_no h z
  · obtain ⟨rfl, rfl, rfl⟩ := shD_inj e
    rw [isPl_ok h0 h1] at z
    cases z
def fd_kind_of (C1 C2 : Addr) : Fd := { n := 2, dom := fun ds => ∃ t d : D, ds = [t, d] ∧ plainK t = true ∧ plainT d, res := fun ds r => ∃ (p : Int) (g s u : Nat), ds = [.int p, shD g s u] ∧ ShOk g s u ∧ 0 ≤ p ∧ p < (g : Int) * ((s : Int) + 1) + u ∧ r = kindD g s p, exn := fun ds X fs => ∃ t d : D, ds = [t, d] ∧ exSP C1 C2 t d X fs }
theorem cl_kind_of {C1 C2 : Addr} {p : Int} {g s u : Nat} (h : ShOk g s u) (h0 : 0 ≤ p) (h1 : p < (g : Int) * ((s : Int) + 1) + u) : Cal (fd_kind_of C1 C2) [.int p, shD g s u] (kindD g s p) := ⟨rfl, ⟨_, _, rfl, rfl, plainT_sh g s u⟩, rfl, fun d ⟨p', g', s', u', e, q1, q2, q3, q4⟩ => by
  injection e with e1 e
  injection e with e2 e
  injection e1 with e1
  obtain ⟨rfl, rfl, rfl⟩ := shD_inj e2
  rw [q4, e1], fun X fs ⟨t, d, e, q⟩ => by
  cases e
  exact exSP_no h h0 h1 q⟩
local macro_rules | `(tactic| walk_at "cal") => `(tactic| (apply cl_kind_of <;> first | assumption | omega | skip))
theorem ok_kind_of (T : Txt K mg) : FnOk P w K mg base (L2.CX P w) 7 T.f_kind_of T.fd_kind_of ["place", "shape"] (SpD K (fd_kind_of T.t_NoShape T.t_NoPlace)) := by
  refine fn_data (N := N_kind_of) (.inl T.F_kind_of) sc_kind_of rfl (fun cdv A outer s H E hr tk => ?_)
  refine ⟨_, (pss_cons (ps_expr (pe_cl (m := 0) (ok_need_shape T) (hr.mono (by decide)) rfl T.g_need_shape T.k_need_shape T.b_need_shape (passD tk) (pa_cons (pv 1) pa_nil) pk_nil))
      (pss_cons (ps_expr (pe_cl (m := 0) (ok_need_places T) (hr.mono (by decide)) rfl T.g_need_places T.k_need_places T.b_need_places (passD tk) (pa_cons (pe_lst (pa_cons (pv 0) pa_nil)) (pa_cons (pv 1) pa_nil)) pk_nil))
      (pss_cons (ps_asg (pv 1) (g_tup (K := K) (n := 3) rfl rfl (pgs_cons (pg_name (i := 2) sc_kind_of.nd rfl (Or.inl rfl)) (pgs_cons (pg_name (i := 3) sc_kind_of.nd rfl (Or.inl rfl)) (pgs_cons (pg_name (i := 4) sc_kind_of.nd rfl (Or.inl rfl)) pgs_nil)))))
      (pss_cons (ps_asg (pe_callB g_divmod rfl T.b_divmod boot_divmod (pa_cons (pv 0) (pa_cons (pe_op (g_add (K := K) rfl) (pv 3) pe_int) pa_nil))) (g_tup (K := K) (n := 2) rfl rfl (pgs_cons (pg_name (i := 5) sc_kind_of.nd rfl (Or.inl rfl)) (pgs_cons (pg_name (i := 6) sc_kind_of.nd rfl (Or.inl rfl)) pgs_nil))))
      (pss_cons (ps_if (pt_cmpR g_ge (pv 5) (pv 2) (nomark _)) (pss_one (ps_ret (pe_tup (pa_cons pe_str (pa_cons (pe_op (g_add (K := K) rfl) (pe_op g_sub (pv 0) (pe_op g_mul (pv 2) (pe_op (g_add (K := K) rfl) (pv 3) pe_int))) pe_int) pa_nil))))) pss_nil)
      (pss_cons (ps_if (pt_cmpR (g_eq (K := K) rfl hr) (pv 6) (pv 3) (nomark _)) (pss_one (ps_ret (pe_tup (pa_cons pe_str (pa_cons (pv 5) pa_nil))))) pss_nil)
      (pss_one (ps_ret (pe_tup (pa_cons pe_str (pa_cons (pv 5) (pa_cons (pv 6) pa_nil)))))))))))), fun ds N' b hl hd acc => ?_⟩
  obtain ⟨t, d, rfl, ht, hp⟩ := hd
  refine w_seq (ws_drop (b' := (fd_kind_of T.t_NoShape T.t_NoPlace).cost [t, d] + b) (evs_calX (es := [d]) (by walk_at "ev") rfl rfl ⟨d, rfl, hp⟩ (Nat.le_of_eq (Nat.zero_add _)) acc (fun z => nomatch z) fun C x ⟨d', e, q⟩ => by cases e; exact ⟨Nat.le_add_left _ _, t, d, rfl, .inl q⟩) fun r ⟨d', e, h', _⟩ => ?_)
  cases e
  obtain ⟨g, s, u, rfl, h⟩ := isShape_inv h'
  obtain ⟨⟨g0, g1⟩, ⟨s0, s1⟩, u0, u1⟩ := id h
  refine w_seq (ws_drop (b' := (fd_kind_of T.t_NoShape T.t_NoPlace).cost [t, shD g s u] + b) (evs_calX (es := [.lst [t], shD g s u]) (by walk_at "ev") rfl rfl ⟨[t], g, s, u, rfl, h, by show 1 ≤ 100000; decide, fun t' ht' => by rw [List.mem_singleton.mp ht']; exact ht⟩ (Nat.le_of_eq (Nat.zero_add _)) acc (fun z => nomatch z) fun C x ⟨ts', g', s', u', e, q⟩ => ?_) fun r ⟨ts', g', s', u', e, h2, _⟩ => ?_)
  · injection e with e1 e
    injection e with e2 e
    injection e1 with e1
    obtain ⟨rfl, rfl, rfl⟩ := shD_inj e2
    subst e1
    obtain ⟨i, t', hi, _, hn, q⟩ := q
    cases i with
    | zero => cases hi; exact ⟨Nat.le_add_left _ _, t, _, rfl, .inr ⟨g, s, u, rfl, h, hn, q⟩⟩
    | succ i => cases hi
  · injection e with e1 e
    injection e with e2 e
    injection e1 with e1
    obtain ⟨rfl, rfl, rfl⟩ := shD_inj e2
    subst e1
    obtain ⟨p, rfl, p0, p1⟩ := isPl_inv (h2 t (List.mem_singleton.mpr rfl))
    have hpb : p.natAbs < 2 ^ 8 := by
      have q : (g : Int) * ((s : Int) + 1) ≤ 4 * 5 := Int.mul_le_mul g1 (by omega) (by omega) (by decide)
      omega
    refine w_seq ?_
    refine w_tg (by walk_at "ev") (by walk_at "tg") (w_seq ?_)
    refine w_tg (by walk_at "ev") (by walk_at "tg") (w_seq ?_)
    have fin : ∀ r : D, r = kindD g s p → (fd_kind_of T.t_NoShape T.t_NoPlace).res [.int p, shD g s u] r := fun r e => ⟨p, g, s, u, rfl, h, p0, p1, e⟩
    refine w_if (by walk_at "ev") (fun h1 => ?_) (fun h1 => w_next (w_seq (w_if (by walk_at "ev") (fun h2 => ?_) (fun h2 => w_next ?_))))
    · refine w_ret (by walk_at "ev") ?_
      exact ⟨by walk_at "b", fin _ (by unfold kindD; rw [if_pos (of_decide_eq_true h1)])⟩
    · refine w_ret (by walk_at "ev") ?_
      exact ⟨by walk_at "b", fin _ (by unfold kindD; rw [if_neg (of_decide_eq_false h1), if_pos (of_decide_eq_true h2)])⟩
    · refine w_ret (by walk_at "ev") ?_
      exact ⟨by walk_at "b", fin _ (by unfold kindD; rw [if_neg (of_decide_eq_false h1), if_neg (of_decide_eq_false h2)])⟩

--OPT lunpack where
--OPT fdarg T.t_NoShape T.t_NoPlace
def markV (s p : Int) : Int := [1, 11, 40, 30].getD (p / (s + 1)).toNat 0 + p % (s + 1)
/-- refused: no shape, no place of the shape, or a place of no data -/
def exM (C1 C2 : Addr) (t d : D) (X : Addr) (fs : List (Str × D)) : Prop := exSP C1 C2 t d X fs ∨ ∃ (p : Int) (g s u : Nat), t = .int p ∧ d = shD g s u ∧ ShOk g s u ∧ 0 ≤ p ∧ p < (g : Int) * ((s : Int) + 1) + u ∧ (g ≤ p / ((s : Int) + 1) ∨ p % ((s : Int) + 1) = s) ∧ exP C2 t X fs
def fd_mark (C1 C2 : Addr) : Fd := { n := 2, dom := fun ds => ∃ t d : D, ds = [t, d] ∧ plainK t = true ∧ plainT d, res := fun ds r => ∃ (p : Int) (g s u : Nat), ds = [.int p, shD g s u] ∧ ShOk g s u ∧ 0 ≤ p ∧ p / ((s : Int) + 1) < g ∧ p % ((s : Int) + 1) ≠ s ∧ r = .int (markV s p), exn := fun ds X fs => ∃ t d : D, ds = [t, d] ∧ exM C1 C2 t d X fs }
theorem mk_lt {p : Int} {g s u : Nat} (h0 : 0 ≤ p) (h1 : p / ((s : Int) + 1) < g) : p < (g : Int) * ((s : Int) + 1) + u := by
  have q1 := Int.emod_add_mul_ediv p ((s : Int) + 1)
  have q2 := Int.emod_lt_of_pos p (b := (s : Int) + 1) (by omega)
  have q3 : ((s : Int) + 1) * (p / ((s : Int) + 1) + 1) ≤ ((s : Int) + 1) * g := Int.mul_le_mul_of_nonneg_left (by omega) (by omega)
  rw [Int.mul_add, Int.mul_one, Int.mul_comm ((s : Int) + 1) g] at q3
  omega
theorem cl_mark {C1 C2 : Addr} {p : Int} {g s u : Nat} (h : ShOk g s u) (h0 : 0 ≤ p) (h1 : p / ((s : Int) + 1) < g) (h2 : p % ((s : Int) + 1) ≠ s) : Cal (fd_mark C1 C2) [.int p, shD g s u] (.int (markV s p)) := ⟨rfl, ⟨_, _, rfl, rfl, plainT_sh g s u⟩, rfl, fun d ⟨p', g', s', u', e, q1, q2, q3, q4, q5⟩ => by
  injection e with e1 e
  injection e with e2 e
  injection e1 with e1
  obtain ⟨rfl, rfl, rfl⟩ := shD_inj e2
  rw [q5, e1], fun X fs ⟨t, d, e, q⟩ => by
  cases e
  rcases q with q | ⟨p', g', s', u', e1, e2, _, _, _, q, _⟩
  · exact exSP_no h h0 (mk_lt h0 h1) q
  · injection e1 with e1
    obtain ⟨rfl, rfl, rfl⟩ := shD_inj e2
    subst e1
    omega⟩
local macro_rules | `(tactic| walk_at "cal") => `(tactic| (apply cl_mark <;> first | assumption | omega | skip))
theorem shp_data : D.shp 64 (.str "data") = true := by decide +kernel
theorem shp_over : D.shp 64 (.str "over") = true := by decide +kernel
theorem shp_local : D.shp 64 (.str "local") = true := by decide +kernel
theorem eq_data : D.eq (.str "data") (.str "data") = true := by decide +kernel
theorem eq_over : D.eq (.str "over") (.str "data") = false := by decide +kernel
theorem eq_local : D.eq (.str "local") (.str "data") = false := by decide +kernel
theorem ok_mark (T : Txt K mg) : FnOk P w K mg base (L2.CX P w) 8 T.f_mark T.fd_mark ["place", "shape"] (SpD K (fd_mark T.t_NoShape T.t_NoPlace)) := by
  have kP_MARKS := T.p_MARKS
  have kD_MARKS := T.q_MARKS
  refine fn_data (N := N_mark) (.inl T.F_mark) sc_mark rfl (fun cdv A outer s H E hr tk => ?_)
  refine ⟨_, (pss_cons (ps_asg (pe_cl (m := 1) (ok_kind_of T) (hr.mono (by decide)) rfl T.g_kind_of T.k_kind_of T.b_kind_of_1_shape (passD tk) (pa_cons (pv 0) pa_nil) (pk_cons (pv 1) pk_nil)) (g_star (K := K) (n := 2) (i := 1) rfl rfl (pgs_cons (pg_name (i := 2) sc_mark.nd rfl (Or.inl rfl)) (pgs_star (pg_name (i := 3) sc_mark.nd rfl (Or.inl rfl)) pgs_nil))))
      (pss_cons (ps_if (pt_cmpR (g_ne (K := K) rfl hr) (pv 2) pe_str (nomark _)) (pss_one (g_raise1 (K := K) rfl rfl (x_NoPlace T) (hr.mono (by decide)) tk (by rfl) T.g_NoPlace (pv 0))) pss_nil)
      (pss_cons (ps_asg (pv 3) (g_lst (K := K) (n := 2) rfl rfl (pgs_cons (pg_name (i := 4) sc_mark.nd rfl (Or.inl rfl)) (pgs_cons (pg_name (i := 5) sc_mark.nd rfl (Or.inl rfl)) pgs_nil))))
      (pss_one (ps_ret (pe_op (g_add (K := K) rfl) (pe_ix (g_ix (K := K) rfl hr) (pe_glob (v := .ref T.t_MARKS) rfl T.c_MARKS rfl) (pv 4) (fun _ _ => rfl)) (pv 5))))))), fun ds N' b hl hd acc => ?_⟩
  obtain ⟨t, d, rfl, ht, hp⟩ := hd
  refine w_seq (ws_star (b' := (fd_mark T.t_NoShape T.t_NoPlace).cost [t, d] + b) (i := 1) (n := 2) (is := [2, 3]) (evs_calXK (es := [t]) (fs := [d]) (by walk_at "ev") (by walk_at "ev") rfl rfl rfl ⟨t, d, rfl, ht, hp⟩ (Nat.le_of_eq (Nat.zero_add _)) acc (fun _ => rfl) fun C x ⟨t', d', e, q⟩ => by cases e; exact ⟨Nat.le_add_left _ _, t, d, rfl, .inl q⟩) (by decide) rfl fun r ⟨p, g, s, u, e, h, p0, p1, q⟩ => ?_)
  have e := e
  injection e with e1 e
  injection e with e2 e
  subst e1 e2
  obtain ⟨⟨g0, g1⟩, ⟨s0, s1⟩, u0, u1⟩ := id h
  have bad : ∀ b', b' = (fd_mark T.t_NoShape T.t_NoPlace).cost [.int p, shD g s u] + b → (g ≤ p / ((s : Int) + 1) ∨ p % ((s : Int) + 1) = s) → b ≤ b' ∧ (fd_mark T.t_NoShape T.t_NoPlace).exn [.int p, shD g s u] T.t_NoPlace [(("place" : Str), .int p)] := fun b' e h' => ⟨by omega, _, _, rfl, .inr ⟨p, g, s, u, rfl, rfl, h, p0, p1, h', rfl, rfl⟩⟩
  by_cases c1 : (g : Int) ≤ p / ((s : Int) + 1)
  · refine ⟨[.str "over", .int (p - g * (s + 1) + 1)], by rw [q]; unfold kindD; rw [if_pos c1]; rfl, by show 2 ≤ 2 + 1; decide, by show 2 ≤ 16384; decide, w_seq ?_⟩
    refine w_if (c := true) (EvT.eq (et_tst (ev_op (p := false) (x := .str "over") (y := .str "data") (by walk_at "ev") (by walk_at "ev") (o_ne shp_over shp_data))) (by rw [eq_over]; rfl)) (fun _ => ?_) (fun h => nomatch h)
    exact w_raise1 acc T.o_NoPlace T.n_NoPlace (by walk_at "ev") (bad _ rfl (.inl c1))
  · by_cases c2 : p % ((s : Int) + 1) = s
    · refine ⟨[.str "local", .int (p / (s + 1))], by rw [q]; unfold kindD; rw [if_neg c1, if_pos c2]; rfl, by show 2 ≤ 2 + 1; decide, by show 2 ≤ 16384; decide, w_seq ?_⟩
      refine w_if (c := true) (EvT.eq (et_tst (ev_op (p := false) (x := .str "local") (y := .str "data") (by walk_at "ev") (by walk_at "ev") (o_ne shp_local shp_data))) (by rw [eq_local]; rfl)) (fun _ => ?_) (fun h => nomatch h)
      exact w_raise1 acc T.o_NoPlace T.n_NoPlace (by walk_at "ev") (bad _ rfl (.inr c2))
    · refine ⟨[.str "data", .int (p / (s + 1)), .int (p % (s + 1))], by rw [q]; unfold kindD; rw [if_neg c1, if_neg c2]; rfl, by show 2 ≤ 3 + 1; decide, by show 3 ≤ 16384; decide, w_seq ?_⟩
      refine w_if (c := false) (EvT.eq (et_tst (ev_op (p := false) (x := .str "data") (y := .str "data") (by walk_at "ev") (by walk_at "ev") (o_ne shp_data shp_data))) (by rw [eq_data]; rfl)) (fun h => nomatch h) (fun _ => w_next ?_)
      refine w_seq (w_tg (d := .lst [.int (p / (s + 1)), .int (p % (s + 1))]) (by walk_at "ev") (by walk_at "tg") ?_)
      have hq0 : 0 ≤ p / ((s : Int) + 1) := Int.ediv_nonneg p0 (by omega)
      have hat : L2.atI [D.int 1, D.int 11, D.int 40, D.int 30] (p / ((s : Int) + 1)) = some (.int ([1, 11, 40, 30].getD (p / ((s : Int) + 1)).toNat 0)) := by
        have hk : p / ((s : Int) + 1) = 0 ∨ p / ((s : Int) + 1) = 1 ∨ p / ((s : Int) + 1) = 2 ∨ p / ((s : Int) + 1) = 3 := by omega
        rcases hk with e | e | e | e <;> rw [e] <;> rfl
      refine w_ret (by walk_at "ev") ?_
      exact ⟨by walk_at "b", p, g, s, u, rfl, h, p0, by omega, c2, rfl⟩

theorem set_mapR {α : Type} (f : Nat → α) (m p : Nat) (y : α) : ((List.range m).map f).set p y = (List.range m).map fun q => if q = p then y else f q := by
  apply List.ext_getElem
  · simp
  · intro i h1 h2
    rw [List.getElem_set, List.getElem_map, List.getElem_map, List.getElem_range]
    by_cases e : p = i
    · rw [if_pos e, if_pos e.symm]
    · rw [if_neg e, if_neg (Ne.symm e)]
theorem rep_one {α : Type} (x : α) : ∀ n : Nat, (List.replicate n [x]).flatten = List.replicate n x
  | 0 => rfl
  | n + 1 => by rw [List.replicate_succ, List.flatten_cons, rep_one x n]; rfl
theorem getE_app {α : Type} {l r : List α} {i : Nat} {h : i < (l ++ r).length} : (l ++ r)[i] = if h' : i < l.length then l[i] else r[i - l.length]'(by rw [List.length_append] at h; omega) := List.getElem_append ..
theorem loc_cut {g s u k : Nat} (hk : k < g) : ((List.replicate (many g s u) (0 : Int)).take (k * (s + 1)) ++ (List.replicate s 1 ++ [96])) ++ (List.replicate (many g s u) (0 : Int)).drop (k * (s + 1) + s + 1) = locR g s u k := by
  have hb := blk_lt (b := s + 1) hk (show s < s + 1 by omega)
  have hm : k * (s + 1) + s + 1 ≤ many g s u := by unfold many; omega
  apply List.ext_getElem
  · simp only [List.length_append, List.length_take, List.length_drop, List.length_replicate, List.length_cons, List.length_nil, locR_len]
    omega
  · intro i h1 h2
    have hi : i < many g s u := by rw [locR_len] at h2; exact h2
    have e2 : (locR g s u k)[i] = locF s k i := by simp [locR]
    rw [e2]
    by_cases c1 : i < k * (s + 1)
    · rw [List.getElem_append_left (by simp; omega), List.getElem_append_left (by simp; omega)]
      rw [List.getElem_take, List.getElem_replicate]
      unfold locF
      rw [if_neg]
      intro z
      have q : i / (s + 1) < k := (Nat.div_lt_iff_lt_mul (by omega)).mpr c1
      omega
    · by_cases c2 : i < k * (s + 1) + s + 1
      · obtain ⟨j, rfl⟩ := Nat.exists_eq_add_of_le (Nat.le_of_not_lt c1)
        have hl : ((List.replicate (many g s u) (0 : Int)).take (k * (s + 1))).length = k * (s + 1) := by
          rw [List.length_take, List.length_replicate]; omega
        rw [List.getElem_append_left (by simp; omega), List.getElem_append_right (by rw [hl]; omega)]
        unfold locF
        rw [dv k (s + 1) j (by omega), md k (s + 1) j (by omega), if_pos rfl]
        simp only [hl]
        by_cases c3 : j = s
        · subst c3
          rw [if_pos rfl, List.getElem_append_right (by simp)]
          simp
        · rw [if_neg c3, List.getElem_append_left (by simp; omega), List.getElem_replicate]
      · have hl : ((List.replicate (many g s u) (0 : Int)).take (k * (s + 1)) ++ (List.replicate s 1 ++ [96])).length = k * (s + 1) + s + 1 := by
          simp; omega
        rw [List.getElem_append_right (by rw [hl]; omega), List.getElem_drop, List.getElem_replicate]
        unfold locF
        rw [if_neg]
        intro z
        have q : k + 1 ≤ i / (s + 1) := by
          rw [Nat.le_div_iff_mul_le (by omega), Nat.add_mul]; omega
        omega
def fd_local_check : Fd := { n := 2, dom := fun ds => ∃ k g s u : Nat, ds = [.int k, shD g s u] ∧ ShOk g s u ∧ k < g, res := fun ds d => ∃ k g s u : Nat, ds = [.int k, shD g s u] ∧ d = .lst (iL (locR g s u k)), own := true }
theorem cl_local_check {k g s u : Nat} (h : ShOk g s u) (hk : k < g) : Cal fd_local_check [.int k, shD g s u] (.lst (iL (locR g s u k))) := ⟨rfl, ⟨k, g, s, u, rfl, h, hk⟩, rfl, fun d ⟨k', g', s', u', e, q⟩ => by
  injection e with e1 e
  injection e with e2 e
  injection e1 with e1
  obtain ⟨rfl, rfl, rfl⟩ := shD_inj e2
  rw [q, show k = k' by omega], fun _ _ q => q⟩
local macro_rules | `(tactic| walk_at "cal") => `(tactic| (apply cl_local_check <;> first | assumption | omega | skip))
theorem ok_local_check (T : Txt K mg) : FnOk P w K mg base (L2.CX P w) 5 T.f_local_check T.fd_local_check ["group", "shape"] (SpD K fd_local_check) := by
  refine fn_data (dvs := []) (kws := []) (N := N_local_check) (.inr T.F_local_check) sc_local_check rfl (fun cdv A outer s H E hr tk => ?_)
  refine ⟨_, (pss_cons (ps_asg (pv 1) (g_tup (K := K) (n := 3) rfl rfl (pgs_cons (pg_name (i := 2) sc_local_check.nd rfl (Or.inl rfl)) (pgs_cons (pg_name (i := 3) sc_local_check.nd rfl (Or.inl rfl)) (pgs_cons (pg_name (i := 4) sc_local_check.nd rfl (Or.inl rfl)) pgs_nil)))))
      (pss_cons (ps_set (i := 5) sc_local_check.nd rfl (Or.inl rfl) (pe_op g_mul (pe_lst (pa_cons pe_int pa_nil)) (pe_cl0 (m := 1) (ok_count T) (hr.mono (by decide)) rfl T.g_count T.k_count T.b_count_0_shape (passD tk) (pk_cons (pv 1) pk_nil))))
      (pss_cons (ps_set (i := 6) sc_local_check.nd rfl (Or.inl rfl) (pe_op g_mul (pv 0) (pe_op (g_add (K := K) rfl) (pv 3) pe_int)))
      (pss_cons (ps_asg (pe_op (g_add (K := K) rfl) (pe_op g_mul (pe_lst (pa_cons pe_int pa_nil)) (pv 3)) (pe_lst (pa_cons (pe_op g_sub (pe_glob (v := .int 97) rfl T.c_PRIME ⟨_, rfl⟩) pe_int) pa_nil))) (pg_subS (pv 5) (po_some (pv 6)) (po_some (pe_op (g_add (K := K) rfl) (pe_op (g_add (K := K) rfl) (pv 6) (pv 3)) pe_int))))
      (pss_one (ps_ret (pv 5))))))), fun ds N' b hl hd acc => ?_⟩
  obtain ⟨k, g, s, u, rfl, h, hk⟩ := hd
  obtain ⟨⟨g0, g1⟩, ⟨s0, s1⟩, u1⟩ := h.nat
  have hm := h.many
  have hb := blk_lt (b := s + 1) hk (show s < s + 1 by omega)
  have hmi : ((g : Int) * ((s : Int) + 1) + u) = ((many g s u : Nat) : Int) := by unfold many; push_cast; rfl
  have hfi : ((k : Int) * ((s : Int) + 1)) = ((k * (s + 1) : Nat) : Int) := by push_cast; rfl
  have hmm : many g s u = g * (s + 1) + u := rfl
  refine w_seq (w_tg (by walk_at "ev") (by walk_at "tg") (w_seq ?_))
  refine w_ownE (xs := iL (List.replicate (many g s u) 0)) (by
    have e : iL (List.replicate (many g s u) 0) = (List.replicate ((many g s u : Nat) : Int).toNat [D.int 0]).flatten := by
      rw [rep_one, Int.toNat_natCast]
      exact List.map_replicate ..
    rw [e]
    exact eo_rep (by walk_at "ev") (EvD.eq (by walk_at "ev") (by rw [hmi])) (by omega) (by show 1 * _ ≤ 100000; omega)) ?_
  refine w_seq (w_asg (by walk_at "ev") (w_seq ?_))
  have e1 : iL (List.replicate (many g s u) 0) = List.replicate (many g s u) (D.int 0) := List.map_replicate ..
  refine w_setSl (a := ((k * (s + 1) : Nat) : Int)) (c := ((k * (s + 1) + s + 1 : Nat) : Int)) (ys := iL (List.replicate s 1 ++ [96])) rfl (EvD.eq (ev_op (by
    refine ev_op (z := .lst (iL (List.replicate s 1))) (by walk_at "ev") (by walk_at "ev") ?_
    have e : iL (List.replicate s 1) = (List.replicate ((s : Nat) : Int).toNat [D.int 1]).flatten := by
      rw [rep_one, Int.toNat_natCast]
      exact List.map_replicate ..
    rw [e]
    exact o_rep (by omega) (by show 1 * _ ≤ 100000; omega)) (by walk_at "ev") (o_catL (by rw [iL_len, List.length_replicate]; show s + 1 ≤ 100000; omega))) (by rw [iL_app]; rfl)) (ep_some (EvD.eq (by walk_at "ev") (by rw [hfi]))) (ep_some (EvD.eq (by walk_at "ev") (by congr 1 <;> push_cast <;> omega))) (by omega) (by omega) (by rw [iL_len, List.length_replicate]; omega) (by rw [iL_len, iL_len, List.length_append, List.length_replicate, List.length_replicate]; show _ + (s + 1) ≤ _; omega) ?_
  refine w_retO rfl ?_
  refine ⟨by walk_at "b", k, g, s, u, rfl, ?_⟩
  rw [Int.toNat_natCast, Int.toNat_natCast, ← loc_cut hk]
  simp only [iL, List.map_append, List.map_take, List.map_drop]

theorem mem_dataP {g s p : Nat} : ((p : Int) ∈ dataP g s) ↔ p < g * (s + 1) ∧ p % (s + 1) ≠ s := by
  unfold dataP
  rw [List.mem_flatMap]
  constructor
  · rintro ⟨i, hi, h⟩
    obtain ⟨j, hj, e⟩ := List.mem_map.mp h
    have hi := List.mem_range.mp hi
    have hj := List.mem_range.mp hj
    have e2 : p = i * (s + 1) + j := by
      have q : ((i * (s + 1) + j : Nat) : Int) = (p : Int) := by push_cast; exact e
      omega
    rw [e2]
    exact ⟨blk_lt hi (by omega), by rw [md i (s + 1) j (by omega)]; omega⟩
  · rintro ⟨h1, h2⟩
    refine ⟨p / (s + 1), List.mem_range.mpr ((Nat.div_lt_iff_lt_mul (by omega)).mpr h1), List.mem_map.mpr ⟨p % (s + 1), List.mem_range.mpr ?_, ?_⟩⟩
    · have := Nat.mod_lt p (show 0 < s + 1 by omega)
      omega
    · have q := Nat.div_add_mod p (s + 1)
      rw [Nat.mul_comm] at q
      have q2 : ((p / (s + 1) * (s + 1) + p % (s + 1) : Nat) : Int) = (p : Int) := by rw [q]
      rw [← q2]
      push_cast
      rfl
theorem dataP_nat {g s : Nat} {x : Int} (h : x ∈ dataP g s) : ∃ p : Nat, x = (p : Int) := by
  unfold dataP at h
  obtain ⟨i, _, h⟩ := List.mem_flatMap.mp h
  obtain ⟨j, _, e⟩ := List.mem_map.mp h
  exact ⟨i * (s + 1) + j, by rw [← e]; push_cast; rfl⟩
theorem dataP_len (g s : Nat) : (dataP g s).length = g * s := by
  unfold dataP
  rw [List.length_flatMap]
  have e : (List.range g).map (fun (i : Nat) => ((List.range s).map fun (j : Nat) => (i : Int) * ((s : Int) + 1) + (j : Int)).length) = List.replicate g s := by
    apply List.ext_getElem
    · simp
    · intro i h1 h2
      simp
  rw [e, List.sum_replicate_nat]
theorem markV_sgn {s p : Nat} : markV (s : Int) (p : Int) = sgn (p / (s + 1)) (p % (s + 1)) := by
  unfold markV sgn
  have e1 : (p : Int) / ((s : Int) + 1) = ((p / (s + 1) : Nat) : Int) := by push_cast; rfl
  have e2 : (p : Int) % ((s : Int) + 1) = ((p % (s + 1) : Nat) : Int) := by push_cast; rfl
  rw [e1, e2, Int.toNat_natCast]
/-- the row while it is being written -/
def ovS (g s u n i : Nat) : List Int := (List.range (many g s u)).map fun (p : Nat) => if (p : Int) ∈ (dataP g s).take i then pw (markV s p) n else 0
theorem ovS_zero (g s u n : Nat) : ovS g s u n 0 = List.replicate (many g s u) 0 := by
  unfold ovS
  apply List.ext_getElem
  · simp
  · intro i h1 h2
    simp
theorem ovS_step {g s u n i p : Nat} (hi : i < (dataP g s).length) (hp : (dataP g s)[i] = (p : Int)) : (ovS g s u n i).set p (pw (markV s p) n) = ovS g s u n (i + 1) := by
  unfold ovS
  rw [set_mapR]
  apply List.map_congr_left
  intro q hq
  have e : (dataP g s).take (i + 1) = (dataP g s).take i ++ [(p : Int)] := by rw [List.take_succ, List.getElem?_eq_getElem hi, hp]; rfl
  rw [e]
  by_cases h : q = p
  · subst h
    simp
  · have h2 : ¬ ((q : Int) = (p : Int)) := by omega
    simp [h, h2]
theorem ovS_end {g s u n : Nat} (hn : n < u) : (ovS g s u (n + 1) (dataP g s).length).set (g * (s + 1) + n) 96 = ovR g s u (n + 1) := by
  unfold ovS ovR
  rw [set_mapR, List.take_length]
  apply List.map_congr_left
  intro p hp
  have hp := List.mem_range.mp hp
  unfold ovF
  by_cases h : p = g * (s + 1) + n
  · rw [if_pos h, if_neg (by omega), if_pos (by omega)]
  · rw [if_neg h]
    by_cases h1 : p < g * (s + 1)
    · rw [if_pos h1]
      by_cases h2 : p % (s + 1) = s
      · rw [if_pos h2, if_neg (fun z => (mem_dataP.mp z).2 h2)]
      · rw [if_neg h2, if_pos (mem_dataP.mpr ⟨h1, h2⟩), markV_sgn]
        rfl
    · rw [if_neg h1, if_neg (fun z => h1 (mem_dataP.mp z).1), if_neg (by omega)]
def fd_over_check : Fd := { n := 2, dom := fun ds => ∃ n g s u : Nat, ds = [.int ((n : Int) + 1), shD g s u] ∧ ShOk g s u ∧ n < u, res := fun ds d => ∃ n g s u : Nat, ds = [.int ((n : Int) + 1), shD g s u] ∧ d = .lst (iL (ovR g s u (n + 1))), own := true }
theorem cl_over_check {n g s u : Nat} (h : ShOk g s u) (hn : n < u) : Cal fd_over_check [.int ((n : Int) + 1), shD g s u] (.lst (iL (ovR g s u (n + 1)))) := ⟨rfl, ⟨n, g, s, u, rfl, h, hn⟩, rfl, fun d ⟨k', g', s', u', e, q⟩ => by
  injection e with e1 e
  injection e with e2 e
  injection e1 with e1
  obtain ⟨rfl, rfl, rfl⟩ := shD_inj e2
  rw [q, show n = k' by omega], fun _ _ q => q⟩
local macro_rules | `(tactic| walk_at "cal") => `(tactic| (apply cl_over_check <;> first | assumption | omega | skip))
theorem ok_over_check (T : Txt K mg) : FnOk P w K mg base (L2.CX P w) 9 T.f_over_check T.fd_over_check ["number", "shape"] (SpD K fd_over_check) := by
  refine fn_data (dvs := []) (kws := []) (N := N_over_check) (.inr T.F_over_check) sc_over_check rfl (fun cdv A outer s H E hr tk => ?_)
  refine ⟨_, (pss_cons (ps_asg (pv 1) (g_tup (K := K) (n := 3) rfl rfl (pgs_cons (pg_name (i := 2) sc_over_check.nd rfl (Or.inl rfl)) (pgs_cons (pg_name (i := 3) sc_over_check.nd rfl (Or.inl rfl)) (pgs_cons (pg_name (i := 4) sc_over_check.nd rfl (Or.inl rfl)) pgs_nil)))))
      (pss_cons (ps_set (i := 5) sc_over_check.nd rfl (Or.inl rfl) (pe_op g_mul (pe_lst (pa_cons pe_int pa_nil)) (pe_cl0 (m := 1) (ok_count T) (hr.mono (by decide)) rfl T.g_count T.k_count T.b_count_0_shape (passD tk) (pk_cons (pv 1) pk_nil))))
      (pss_cons (ps_for (passes_of rfl) rfl (g_list (K := K) rfl (pe_cl0 (m := 1) (ok_data_places T) (hr.mono (by decide)) rfl T.g_data_places T.k_data_places T.b_data_places_0_shape (passD tk) (pk_cons (pv 1) pk_nil))) (pg_name (i := 6) sc_over_check.nd rfl (Or.inl rfl)) (pss_one (ps_asg (pe_cl (m := 0) (ok_power T) (hr.mono (by decide)) rfl T.g_power T.k_power T.b_power (passD tk) (pa_cons (pe_cl (m := 1) (ok_mark T) (hr.mono (by decide)) rfl T.g_mark T.k_mark T.b_mark_1_shape (passD tk) (pa_cons (pv 6) pa_nil) (pk_cons (pv 1) pk_nil)) (pa_cons (pv 0) pa_nil)) pk_nil) (pg_sub (pv 5) (pv 6) (g_set hr)))))
      (pss_cons (ps_asg (pe_op g_sub (pe_glob (v := .int 97) rfl T.c_PRIME ⟨_, rfl⟩) pe_int) (pg_sub (pv 5) (pe_op g_sub (pe_op (g_add (K := K) rfl) (pe_op g_mul (pv 2) (pe_op (g_add (K := K) rfl) (pv 3) pe_int)) (pv 0)) pe_int) (g_set hr)))
      (pss_one (ps_ret (pv 5))))))), fun ds N' b hl hd acc => ?_⟩
  obtain ⟨n, g, s, u, rfl, h, hn⟩ := hd
  obtain ⟨⟨g0, g1⟩, ⟨s0, s1⟩, u1⟩ := h.nat
  have hm := h.many
  have hmi : ((g : Int) * ((s : Int) + 1) + u) = ((many g s u : Nat) : Int) := by unfold many; push_cast; rfl
  have hmm : many g s u = g * (s + 1) + u := rfl
  have lS : ∀ i, (ovS g s u (n + 1) i).length = many g s u := fun i => by simp [ovS]
  have ldp : (dataP g s).length ≤ 16 := by rw [dataP_len]; exact Nat.mul_le_mul g1 s1
  refine w_seq (w_tg (by walk_at "ev") (by walk_at "tg") (w_seq ?_))
  refine w_ownE (xs := iL (ovS g s u (n + 1) 0)) (by
    have e : iL (ovS g s u (n + 1) 0) = (List.replicate ((many g s u : Nat) : Int).toNat [D.int 0]).flatten := by
      rw [rep_one, Int.toNat_natCast, ovS_zero]
      exact List.map_replicate ..
    rw [e]
    exact eo_rep (by walk_at "ev") (EvD.eq (by walk_at "ev") (by rw [hmi])) (by omega) (by show 1 * _ ≤ 100000; omega)) ?_
  refine w_seq (w_for allV (fun i ds b' => ∃ s6 : Sd, ds = [.dat (.int ((n : Int) + 1)), .dat (shD g s u), .dat (.int g), .dat (.int s), .dat (.int u), .own (iL (ovS g s u (n + 1) i)), s6] ∧ b' = fd_over_check.cost [.int ((n : Int) + 1), shD g s u] + b) (ei_list (by walk_at "ev")) ⟨_, rfl, by rfl⟩ ?_ ?_)
  · rintro i ds' b' hi ⟨s6, rfl, rfl⟩
    rw [iL_len] at hi
    simp only [Int.toNat_natCast] at hi ⊢
    obtain ⟨p, hp⟩ := dataP_nat (List.getElem_mem hi)
    have hmem : (p : Int) ∈ dataP g s := by rw [← hp]; exact List.getElem_mem hi
    obtain ⟨q1, q2⟩ := mem_dataP.mp hmem
    have e : (dataP g s).getD i 0 = (p : Int) := by rw [List.getD_eq_getElem?_getD, List.getElem?_eq_getElem hi, hp]; rfl
    rw [getD_iL hi, e]
    refine ⟨_, tg_name, ?_⟩
    have d1 : (p : Int) / ((s : Int) + 1) = ((p / (s + 1) : Nat) : Int) := by push_cast; rfl
    have d2 : (p : Int) % ((s : Int) + 1) = ((p % (s + 1) : Nat) : Int) := by push_cast; rfl
    have d3 : p / (s + 1) < g := (Nat.div_lt_iff_lt_mul (by omega)).mpr q1
    have c1 := cl_mark (C1 := T.t_NoShape) (C2 := T.t_NoPlace) (p := p) h (by omega) (by rw [d1]; omega) (by rw [d2]; omega)
    refine w_setO rfl (d := .int (pw (markV s p) (n + 1))) (EvD.eq (ev_cal (es := [.int (markV s p), .int ((n : Int) + 1)]) (ea_cons (ev_calK (es := [.int p]) (fs := [shD g s u]) (by walk_at "ev") (by walk_at "ev") c1 rfl rfl) (by walk_at "ev")) (cl_power (by omega)) rfl) (by congr 2)) (by walk_at "ev") (by omega) (by rw [iL_len, lS]; omega) ?_
    refine ⟨.dat (.int p), ?_, rfl⟩
    rw [Int.toNat_natCast, ← ovS_step hi hp]
    simp only [iL, List.map_set]
    rfl
  · rintro ds' b' ⟨s6, rfl, rfl⟩
    rw [iL_len]
    simp only [Int.toNat_natCast]
    refine w_seq (w_setO (k := ((g * (s + 1) + n : Nat) : Int)) rfl (by walk_at "ev") (EvD.eq (by walk_at "ev") (by congr 1 <;> push_cast <;> omega)) (by omega) (by rw [iL_len, lS]; omega) ?_)
    refine w_retO rfl ?_
    refine ⟨by walk_at "b", n, g, s, u, rfl, ?_⟩
    rw [Int.toNat_natCast, ← ovS_end hn]
    simp only [iL, List.map_set]
    rfl

--OPT fdarg T.t_NoShape
def fd_checks (C : Addr) : Fd := { n := 1, dom := fun ds => ∃ d : D, ds = [d] ∧ plainT d, res := fun ds r => ∃ g s u : Nat, ds = [shD g s u] ∧ ShOk g s u ∧ r = .lst (rL (rowsV g s u)), exn := fun ds X fs => ∃ d : D, ds = [d] ∧ exS C d X fs, own := true, own2 := 1 }
theorem cl_checks {C : Addr} {g s u : Nat} (h : ShOk g s u) : Cal (fd_checks C) [shD g s u] (.lst (rL (rowsV g s u))) := ⟨rfl, ⟨_, rfl, plainT_sh g s u⟩, rfl, fun d ⟨g', s', u', e, q1, q2⟩ => by
  injection e with e2 e
  obtain ⟨rfl, rfl, rfl⟩ := shD_inj e2
  exact q2, fun X fs ⟨d', e, q⟩ => by
  cases e
  exact exS_no h q⟩
theorem rowsV_len (g s u : Nat) : (rowsV g s u).length = g + u := by simp [rowsV]
local macro_rules | `(tactic| walk_at "cal") => `(tactic| (apply cl_checks <;> first | assumption | omega | skip))
theorem ok_checks (T : Txt K mg) : FnOk P w K mg base (L2.CX P w) 10 T.f_checks T.fd_checks ["shape"] (SpD K (fd_checks T.t_NoShape)) := by
  refine fn_data (N := N_checks) (.inl T.F_checks) sc_checks rfl (fun cdv A outer s H E hr tk => ?_)
  refine ⟨_, (pss_cons (ps_expr (pe_cl (m := 0) (ok_need_shape T) (hr.mono (by decide)) rfl T.g_need_shape T.k_need_shape T.b_need_shape (passD tk) (pa_cons (pv 0) pa_nil) pk_nil))
      (pss_cons (ps_asg (pv 0) (g_tup (K := K) (n := 3) rfl rfl (pgs_cons (pg_name (i := 1) sc_checks.nd rfl (Or.inl rfl)) (pgs_cons (pg_name (i := 2) sc_checks.nd rfl (Or.inl rfl)) (pgs_cons (pg_name (i := 3) sc_checks.nd rfl (Or.inl rfl)) pgs_nil)))))
      (pss_cons (ps_setLc (i := 4) (own := [("group", 5)]) rfl sc_checks.nd rfl rfl (sw_true rfl rfl rfl (by decide +kernel)) (pi_range1 rfl T.b_range (pa_cons (pv 1) pa_nil)) (blkOk_by (own := [("group", 5)]) (N := N_checks) (sc := defScope s_checks) (by decide +kernel)) (fun _ _ _ _ _ => (pg_name (i := 5) sc_checks.nd rfl (Or.inl rfl))) (fun _ _ _ _ _ => pts_nil) (fun _ _ _ _ _ => (pe_cl (m := 0) (ok_local_check T) (hr.mono (by decide)) rfl T.g_local_check T.k_local_check T.b_local_check pass_never (pa_cons (pv 5) (pa_cons (pv 0) pa_nil)) pk_nil)))
      (pss_one (ps_ret (pe_op (g_add (K := K) rfl) (pv 4) (pe_lc (own := [("number", 6)]) rfl sc_checks.nd (pi_range2 rfl T.b_range (pa_cons pe_int (pa_cons (pe_op (g_add (K := K) rfl) (pv 3) pe_int) pa_nil))) (blkOk_by (own := [("number", 6)]) (N := N_checks) (sc := defScope s_checks) (by decide +kernel)) (fun _ _ _ _ _ => (pg_name (i := 6) sc_checks.nd rfl (Or.inl rfl))) (fun _ _ _ _ _ => pts_nil) (fun _ _ _ _ _ => (pe_cl (m := 0) (ok_over_check T) (hr.mono (by decide)) rfl T.g_over_check T.k_over_check T.b_over_check pass_never (pa_cons (pv 6) (pa_cons (pv 0) pa_nil)) pk_nil))))))))), fun ds N' b hl hd acc => ?_⟩
  obtain ⟨d, rfl, hp⟩ := hd
  refine w_seq (ws_drop (b' := (fd_checks T.t_NoShape).cost [d] + b) (evs_calX (es := [d]) (by walk_at "ev") rfl rfl ⟨d, rfl, hp⟩ (Nat.le_of_eq (Nat.zero_add _)) acc (fun z => nomatch z) fun C x ⟨d', e, q⟩ => by cases e; exact ⟨Nat.le_add_left _ _, d, rfl, q⟩) fun r ⟨d', e, h', _⟩ => ?_)
  cases e
  obtain ⟨g, s, u, rfl, h⟩ := isShape_inv h'
  obtain ⟨⟨g0, g1⟩, ⟨s0, s1⟩, u1⟩ := h.nat
  refine w_seq ?_
  refine w_tg (by walk_at "ev") (by walk_at "tg") ?_
  have flat : ∀ (v : List Int) (y : D), y ∈ iL v → flatD y = true := fun v y hy => by
    obtain ⟨z, _, rfl⟩ := List.mem_map.mp hy; rfl
  refine w2_start (eo2_lc (fun k => iL (locR g s u k)) (ei_r1 (p := true) (n := (g : Int)) (by walk_at "ev") (by omega)) (by omega) (fun i y _ hy => flat _ y hy) fun i hi => ⟨_, tg_name, fun b0 => ?_⟩) (by exact (by decide : 4 < 7)) (fun yss e => ?_)
  · exact eo_cal (by walk_at "ev") (cl_local_check h (by omega)) rfl
  subst e
  refine w2_retCat (eo2_lc (fun n => iL (ovR g s u (n + 1))) (ei_r2 (p := true) (m := 1) (n := (u : Int) + 1) (by walk_at "ev") (by omega)) (by omega) (fun i y _ hy => flat _ y hy) fun i hi => ⟨_, tg_name, fun b0 => ?_⟩) (fun zss e => ?_) (fun zss e => ?_)
  · exact eo_cal (EaD.eq (by walk_at "ev") (by rw [Int.add_comm])) (cl_over_check h (by omega)) rfl
  · subst e
    simp only [List.length_map, List.length_range]
    omega
  · subst e
    refine ⟨by walk_at "b", g, s, u, rfl, h, ?_⟩
    rw [show ((u : Int) + 1 - 1).toNat = u by omega, Int.toNat_natCast]
    simp [rL, rowsV, iL, List.map_map, Function.comp_def]

def fd_filled : Fd := { n := 2, dom := fun ds => ∃ (g s u : Nat) (data : List Int), ds = [.lst (iL data), shD g s u] ∧ ShOk g s u ∧ data.length = g * s ∧ ∀ x ∈ data, x.natAbs < 2 ^ 250, res := fun ds d => ∃ (g s u : Nat) (data : List Int), ds = [.lst (iL data), shD g s u] ∧ d = .lst (iL (fillV g s u data)), own := true }
theorem cl_filled {g s u : Nat} {data : List Int} (h : ShOk g s u) (hl : data.length = g * s) (hb : ∀ x ∈ data, x.natAbs < 2 ^ 250) : Cal fd_filled [.lst (iL data), shD g s u] (.lst (iL (fillV g s u data))) := ⟨rfl, ⟨g, s, u, data, rfl, h, hl, hb⟩, rfl, fun d ⟨g', s', u', dt, e, q⟩ => by
  injection e with e3 e
  injection e with e2 e
  obtain ⟨rfl, rfl, rfl⟩ := shD_inj e2
  injection e3 with e3
  rw [q, iL_inj e3], fun _ _ q => q⟩
theorem flat_range {α : Type} (f : Nat → Nat → α) (s : Nat) : ∀ g : Nat, ((List.range g).flatMap fun i => (List.range s).map (f i)) = (List.range (g * s)).map fun p => f (p / s) (p % s)
  | 0 => by simp
  | g + 1 => by
    rw [List.range_succ, List.flatMap_append, flat_range f s g, Nat.add_mul, Nat.one_mul, List.range_add, List.map_append, List.map_map]
    congr 1
    simp only [List.flatMap_cons, List.flatMap_nil, List.append_nil]
    refine List.map_congr_left fun j hj => ?_
    have hj := List.mem_range.mp hj
    show f g j = f ((g * s + j) / s) ((g * s + j) % s)
    rw [dv g s j hj, md g s j hj]
theorem flat2_len' (m : Nat) (f : Nat → Nat → D) : ∀ i, (flat2 (fun _ => m) (fun _ _ => true) f i).length = i * m
  | 0 => by simp [flat2]
  | i + 1 => by
    rw [flat2_step, List.length_append, flat2_len' m f i, Nat.add_mul, Nat.one_mul, List.length_map, List.filter_eq_self.mpr (fun _ _ => rfl), List.length_range]
def marksL (g s : Nat) : List Int := (List.range (g * s)).map fun p => sgn (p / s) (p % s)
/-- the first n numbers of the filling -/
def fillT' (g s : Nat) (data : List Int) (n : Nat) : List Int := (List.range n).map (fillF g s fun i => data.getD i 0)
theorem cutD' {data : List Int} {g s i : Nat} (hi : i < g) (hl : data.length = g * s) : slcD (iL data) (some ((i * s : Nat) : Int)) (some ((i * s + s : Nat) : Int)) = iL ((List.range s).map fun j => data.getD (i * s + j) 0) := by
  have hb : (i + 1) * s ≤ g * s := Nat.mul_le_mul_right s hi
  rw [Nat.add_mul, Nat.one_mul] at hb
  unfold slcD
  rw [iL_len, HT.sIx_nat, HT.sIx_nat]
  have e1 : min (i * s) data.length = i * s := by omega
  have e2 : min (i * s + s) data.length = i * s + s := by omega
  rw [e1, e2, show i * s + s - i * s = s by omega]
  simp only [iL, ← List.map_drop, ← List.map_take]
  congr 1
  apply List.ext_getElem
  · simp; omega
  · intro j h1 h2
    have hj : j < s := by simpa using h2
    have q : i * s + j < data.length := by omega
    rw [List.getElem_take, List.getElem_drop, List.getElem_map, List.getElem_range, List.getD_eq_getElem?_getD, List.getElem?_eq_getElem q]
    rfl
theorem fillT_step' {g s i : Nat} {data : List Int} (hi : i < g) : fillT' g s data (i * (s + 1)) ++ ((List.range s).map (fun j => data.getD (i * s + j) 0) ++ [sm s (fun j => data.getD (i * s + j) 0) % 97]) = fillT' g s data ((i + 1) * (s + 1)) := by
  unfold fillT'
  rw [Nat.add_mul, Nat.one_mul, List.range_add, List.map_append]
  congr 1
  rw [List.range_succ, List.map_append, List.map_append, List.map_map]
  congr 1
  · apply List.map_congr_left
    intro j hj
    exact (fill_data (dt := fun i => data.getD i 0) hi (List.mem_range.mp hj)).symm
  · show _ = [fillF g s _ (i * (s + 1) + s)]
    rw [fill_loc hi]
theorem getD_abs' {v : List Int} (h : ∀ x ∈ v, x.natAbs < 2 ^ 250) (i : Nat) : (v.getD i 0).natAbs < 2 ^ 250 := by
  rw [List.getD_eq_getElem?_getD]
  cases e : v[i]? with
  | none => decide
  | some n => exact h n (List.mem_of_getElem? e)
theorem pw_mod (x : Int) (n : Nat) (y : Int) : (pw x n * y) % 97 % 97 = (x ^ n * y) % 97 := by
  unfold pw
  rw [Int.emod_emod_of_dvd _ (Int.dvd_refl 97), Int.mul_emod, Int.emod_emod_of_dvd _ (Int.dvd_refl 97), ← Int.mul_emod]
theorem fillT_over {g s n : Nat} {data : List Int} : fillT' g s data (g * (s + 1) + n) ++ [(0 + sm (g * s) fun k => pw (sgn (k / s) (k % s)) (n + 1) * data.getD k 0 % 97) % 97] = fillT' g s data (g * (s + 1) + (n + 1)) := by
  unfold fillT'
  rw [← Nat.add_assoc, List.range_succ, List.map_append]
  congr 1
  show _ = [fillF g s _ (g * (s + 1) + n)]
  rw [fill_ov, Int.zero_add]
  congr 1
  rw [sm_mul]
  refine sm_mod fun i hi => sm_mod fun j hj => ?_
  rw [dv i s j hj, md i s j hj]
  exact pw_mod _ _ _
theorem ok_filled (T : Txt K mg) : FnOk P w K mg base (L2.CX P w) 2 T.f_filled T.fd_filled ["data", "shape"] (SpD K fd_filled) := by
  have kP_MARKS := T.p_MARKS
  have kD_MARKS := T.q_MARKS
  refine fn_data (dvs := []) (kws := []) (N := N_filled) (.inr T.F_filled) sc_filled rfl (fun cdv A outer s H E hr tk => ?_)
  refine ⟨_, (pss_cons (ps_asg (pv 1) (g_tup (K := K) (n := 3) rfl rfl (pgs_cons (pg_name (i := 2) sc_filled.nd rfl (Or.inl rfl)) (pgs_cons (pg_name (i := 3) sc_filled.nd rfl (Or.inr rfl)) (pgs_cons (pg_name (i := 4) sc_filled.nd rfl (Or.inl rfl)) pgs_nil)))))
      (pss_cons (ps_setLc2 (i := 5) (own := [("first", 10), ("at", 11)]) (vs1 := [11]) rfl sc_filled.nd rfl rfl (sw_true rfl rfl rfl (by decide +kernel)) (g_tuple (K := K) rfl (pe_slice (g_slice (K := K) rfl) (pe_glob (v := .ref T.t_MARKS) rfl T.c_MARKS rfl) po_none (po_some (pv 2)))) (blkOk_by (own := [("first", 10), ("at", 11)]) (N := N_filled) (sc := defScope s_filled) (by decide +kernel)) (by decide) (fun _ _ _ _ _ => (pg_name (i := 10) sc_filled.nd rfl (Or.inl rfl))) (fun _ _ _ _ _ => pts_nil) (fun _ _ _ _ _ => (pi_range1 rfl T.b_range (pa_cons (pv 3) pa_nil))) (fun _ _ _ _ _ => (pg_name (i := 11) sc_filled.nd rfl (Or.inl rfl))) (fun _ _ _ _ _ => pts_nil) (fun _ _ _ _ _ => (pe_op (g_add (K := K) rfl) (pv 10) (pv 11))))
      (pss_cons (ps_set (i := 6) sc_filled.nd rfl (Or.inl rfl) (pe_lst pa_nil))
      (pss_cons (ps_for (passes_of rfl) rfl (pi_range1 rfl T.b_range (pa_cons (pv 2) pa_nil)) (pg_name (i := 7) sc_filled.nd rfl (Or.inl rfl)) (pss_cons (ps_set (i := 8) sc_filled.nd rfl (Or.inl rfl) (pe_callTy (g_listof (K := K) rfl) rfl T.b_list boot_list (pa_cons (pe_slice (g_slice (K := K) rfl) (pv 0) (po_some (pe_op g_mul (pv 7) (pv 3))) (po_some (pe_op (g_add (K := K) rfl) (pe_op g_mul (pv 7) (pv 3)) (pv 3)))) pa_nil)))
      (pss_one (ps_expr (g_bm (K := K) rfl PySem.F.plainAttrs_list PySem.F.slot_list_extend PySem.F.type_list_extend g_extend (pv 6) (pa_cons (pe_op (g_add (K := K) rfl) (pv 8) (pe_lst (pa_cons (pe_cl (m := 0) (ok_plus T) (hr.mono (by decide)) rfl T.g_plus T.k_plus T.b_plus (passD tk) (pa_cons pe_int (pa_cons (pe_callB (g_sum (K := K) rfl rfl) rfl T.b_sum boot_sum (pa_cons (pv 8) pa_nil)) pa_nil)) pk_nil) pa_nil))) pa_nil))))))
      (pss_cons (ps_for (passes_of rfl) rfl (pi_range2 rfl T.b_range (pa_cons pe_int (pa_cons (pe_op (g_add (K := K) rfl) (pv 4) pe_int) pa_nil))) (pg_name (i := 9) sc_filled.nd rfl (Or.inr rfl)) (pss_one (ps_expr (g_bm (K := K) rfl PySem.F.plainAttrs_list PySem.F.slot_list_append PySem.F.type_list_append g_append (pv 6) (pa_cons (pe_cl (m := 0) (ok_plus T) (hr.mono (by decide)) rfl T.g_plus T.k_plus T.b_plus (passD tk) (pa_cons pe_int (pa_cons (pe_callB (g_sum (K := K) rfl rfl) rfl T.b_sum boot_sum (pa_cons (pe_lc (own := [("one", 12), ("other", 13)]) rfl sc_filled.nd (g_zip (K := K) rfl rfl T.b_zip (pa_cons (pv 5) (pa_cons (pv 0) pa_nil))) (blkOk_by (own := [("one", 12), ("other", 13)]) (N := N_filled) (sc := defScope s_filled) (by decide +kernel)) (fun _ _ _ _ _ => (g_tup (K := K) (n := 2) rfl rfl (pgs_cons (pg_name (i := 12) sc_filled.nd rfl (Or.inl rfl)) (pgs_cons (pg_name (i := 13) sc_filled.nd rfl (Or.inl rfl)) pgs_nil)))) (fun _ _ _ _ _ => pts_nil) (fun _ _ _ _ _ => (pe_cl (m := 0) (ok_times T) (hr.mono (by decide)) rfl T.g_times T.k_times T.b_times pass_never (pa_cons (pe_cl (m := 0) (ok_power T) (hr.mono (by decide)) rfl T.g_power T.k_power T.b_power pass_never (pa_cons (pv 12) (pa_cons (pv 9) pa_nil)) pk_nil) (pa_cons (pv 13) pa_nil)) pk_nil))) pa_nil)) pa_nil)) pk_nil) pa_nil)))))
      (pss_one (ps_ret (pv 6)))))))), fun ds N' b hl hd acc => ?_⟩
  obtain ⟨g, s, u, data, rfl, h, hl, hb⟩ := hd
  obtain ⟨⟨g0, g1⟩, ⟨s0, s1⟩, u1⟩ := h.nat
  have hm := h.many
  have hmm : many g s u = g * (s + 1) + u := rfl
  have hgs : g * s ≤ 16 := Nat.mul_le_mul g1 s1
  refine w_seq (w_tg (by walk_at "ev") (by walk_at "tg") (w_seq ?_))
  have hcut : (slcD [D.int 1, .int 11, .int 40, .int 30] none (some (g : Int))).length = g ∧ ∀ i, i < g → (slcD [D.int 1, .int 11, .int 40, .int 30] none (some (g : Int))).getD i .non = .int ([1, 11, 40, 30].getD i 0) := by
    have hk : g = 1 ∨ g = 2 ∨ g = 3 ∨ g = 4 := by omega
    rcases hk with rfl | rfl | rfl | rfl
    · exact ⟨rfl, fun i hi => by have : i = 0 := by omega
                                 subst this; rfl⟩
    · exact ⟨rfl, fun i hi => by have : i = 0 ∨ i = 1 := by omega
                                 rcases this with rfl | rfl <;> rfl⟩
    · exact ⟨rfl, fun i hi => by have : i = 0 ∨ i = 1 ∨ i = 2 := by omega
                                 rcases this with rfl | rfl | rfl <;> rfl⟩
    · exact ⟨rfl, fun i hi => by have : i = 0 ∨ i = 1 ∨ i = 2 ∨ i = 3 := by omega
                                 rcases this with rfl | rfl | rfl | rfl <;> rfl⟩
  have hsi : ((s : Int)).toNat = s := Int.toNat_natCast s
  refine w_asg (d := .lst (iL (marksL g s))) (EvD.eq (EvO.evd (eo_lc2 (fun _ => ((s : Int)).toNat) (fun _ j => .int (j : Int)) (fun _ _ => true) (fun i j => .int (sgn i j)) (ei_tup (xs := slcD [D.int 1, .int 11, .int 40, .int 30] none (some (g : Int))) (ev_slice (by walk_at "ev") ep_none (ep_some (by walk_at "ev")) sl_T)) ?_ fun i hi => ⟨_, tg_name, ?_, fun b0 => ei_r1 (p := false) (n := (s : Int)) (by walk_at "ev") (by omega), fun j hj => ⟨_, tg_name, fun b0 => ⟨et_yes, fun _ => ?_⟩⟩⟩)) ?_) (w_seq ?_)
  · intro i j hi hj
    rw [hcut.1] at hi
    rw [List.length_append, flat2_len', List.length_map, List.filter_eq_self.mpr (fun _ _ => rfl), List.length_range]
    have q : i * ((s : Int)).toNat ≤ 4 * 4 := Nat.mul_le_mul (by omega) (by omega)
    omega
  · intro x hx
    have q := List.all_eq_true.mp (show (List.all _ fun s => !isOwn s) = true from rfl) x hx
    simpa using q
  · rw [hcut.1] at hi
    exact ev_op (x := .int ([1, 11, 40, 30].getD i 0)) (y := .int (j : Int)) (EvD.eq (by walk_at "ev") (by rw [hcut.2 i hi])) (by walk_at "ev") o_add
  · rw [hcut.1, hsi]
    unfold flat2 marksL
    rw [← flat_range sgn s g]
    unfold iL
    rw [List.map_flatMap]
    congr 1
    congr 1
    funext i
    rw [List.filter_eq_self.mpr (fun _ _ => rfl), List.map_map]
    rfl
  have hts : ∀ n, n ≤ g * (s + 1) + u → (fillT' g s data n).length ≤ 22 := fun n hn => by
    unfold fillT'
    rw [List.length_map, List.length_range]
    omega
  refine w_ownE (xs := []) (EvO.imp (eo_lst ea_nil) fun xs e => e) (w_seq ?_)
  refine w_for allV (fun i ds b' => ∃ s7 s8 s9 s10 s11 s12 s13 : Sd, ds = [.dat (.lst (iL data)), .dat (shD g s u), .dat (.int g), .dat (.int s), .dat (.int u), .dat (.lst (iL (marksL g s))), .own (iL (fillT' g s data (i * (s + 1)))), s7, s8, s9, s10, s11, s12, s13] ∧ b' = fd_filled.cost [.lst (iL data), shD g s u] + b) (ei_r1 (n := (g : Int)) (by walk_at "ev") (by omega)) ⟨_, _, _, _, _, _, _, by rw [Nat.zero_mul]; rfl, by rfl⟩ ?_ ?_
  · rintro i ds' b' hi ⟨s7, s8, s9, s10, s11, s12, s13, rfl, rfl⟩
    rw [Int.toNat_natCast] at hi
    have hbb := blk_lt (b := s) hi (show s - 1 < s by omega)
    have hb2 : (i + 1) * (s + 1) ≤ g * (s + 1) := Nat.mul_le_mul_right _ hi
    have hb3 : i * (s + 1) ≤ (i + 1) * (s + 1) := Nat.mul_le_mul_right _ (Nat.le_succ i)
    refine ⟨_, tg_name, ?_⟩
    have e1 : ((i : Int) * (s : Int)) = ((i * s : Nat) : Int) := by push_cast; rfl
    refine w_seq (w_asg (d := .lst (iL ((List.range s).map fun j => data.getD (i * s + j) 0))) (ev_cb (es := [.lst (iL ((List.range s).map fun j => data.getD (i * s + j) 0))]) (ea_cons (by
      rw [← cutD' hi hl]
      exact ev_slice (by walk_at "ev") (ep_some (EvD.eq (by walk_at "ev") (by rw [e1]))) (ep_some (EvD.eq (by walk_at "ev") (by rw [e1]; push_cast; rfl))) sl_L) ea_nil) (c_listof rfl)) ?_)
    have hsum : ((List.range s).map fun j => data.getD (i * s + j) 0).sum = sm s (fun j => data.getD (i * s + j) 0) := sm_range _ _
    refine w_ext (b' := fd_filled.cost [.lst (iL data), shD g s u] + b) (ys := iL ((List.range s).map (fun j => data.getD (i * s + j) 0) ++ [sm s (fun j => data.getD (i * s + j) 0) % 97])) rfl ?_ ?_ ?_
    · rw [iL_app]
      refine ev_op (x := .lst (iL ((List.range s).map fun j => data.getD (i * s + j) 0))) (y := .lst [.int (sm s (fun j => data.getD (i * s + j) 0) % 97)]) (by walk_at "ev") (ev_lst (ea_cons (EvD.eq (ev_cal (es := [.int 0, .int (sm s (fun j => data.getD (i * s + j) 0))]) (ea_cons (by walk_at "ev") (ea_cons (EvD.eq (ev_cb (ea_cons (by walk_at "ev") ea_nil) (c_sumL (ns := (List.range s).map fun j => data.getD (i * s + j) 0) rfl)) (by rw [hsum])) ea_nil)) cl_plus rfl) (by rw [Int.zero_add])) ea_nil) (by show 1 ≤ 100000; decide)) (o_catL (by rw [iL_len]; simp; omega))
    · rw [iL_len, iL_len, List.length_append, List.length_map, List.length_range]
      have := hts (i * (s + 1)) (by omega)
      show _ + (s + 1) ≤ 100000
      omega
    · have e : iL (fillT' g s data ((i + 1) * (s + 1))) = iL (fillT' g s data (i * (s + 1))) ++ iL ((List.range s).map (fun j => data.getD (i * s + j) 0) ++ [sm s (fun j => data.getD (i * s + j) 0) % 97]) := by rw [← fillT_step' hi, iL_app]
      rw [e]
      exact ⟨_, _, _, _, _, _, _, rfl, rfl⟩
  · rintro ds' b' ⟨s7, s8, s9, s10, s11, s12, s13, rfl, rfl⟩
    rw [Int.toNat_natCast]
    refine w_seq (w_for allV (fun n ds b' => ∃ s7 s8 s9 s10 s11 s12 s13 : Sd, ds = [.dat (.lst (iL data)), .dat (shD g s u), .dat (.int g), .dat (.int s), .dat (.int u), .dat (.lst (iL (marksL g s))), .own (iL (fillT' g s data (g * (s + 1) + n))), s7, s8, s9, s10, s11, s12, s13] ∧ b' = fd_filled.cost [.lst (iL data), shD g s u] + b) (ei_r2 (m := 1) (n := (u : Int) + 1) (by walk_at "ev") (by omega)) ⟨_, _, _, _, _, _, _, rfl, by rfl⟩ ?_ ?_)
    · rintro n ds' b' hn ⟨s7, s8, s9, s10, s11, s12, s13, rfl, rfl⟩
      have hn' : n < u := by omega
      refine ⟨_, tg_name, ?_⟩
      have lm : (marksL g s).length = g * s := by simp [marksL]
      have hd0 : fillT' g s data (g * (s + 1) + (n + 1)) = fillT' g s data (g * (s + 1) + n) ++ [(0 + sm (g * s) fun k => pw (sgn (k / s) (k % s)) (n + 1) * data.getD k 0 % 97) % 97] := fillT_over.symm
      refine w_app (b' := fd_filled.cost [.lst (iL data), shD g s u] + b) (d := .int ((0 + sm (g * s) fun k => pw (sgn (k / s) (k % s)) (n + 1) * data.getD k 0 % 97) % 97)) rfl ?_ (by
        rw [iL_len]
        have := hts (g * (s + 1) + n) (by omega)
        omega) ?_
      rotate_left
      · have e : iL (fillT' g s data (g * (s + 1) + (n + 1))) = iL (fillT' g s data (g * (s + 1) + n)) ++ [.int ((0 + sm (g * s) fun k => pw (sgn (k / s) (k % s)) (n + 1) * data.getD k 0 % 97) % 97)] := by rw [hd0, iL_app]; rfl
        rw [e]
        exact ⟨_, _, _, _, _, _, _, rfl, rfl⟩
      refine ev_cal (es := [.int 0, .int (sm (g * s) fun k => pw (sgn (k / s) (k % s)) (n + 1) * data.getD k 0 % 97)]) (ea_cons (by walk_at "ev") (ea_cons (EvD.eq (ev_cb (ea_cons (EvD.wk (ev_lc1 (fun k => .int (pw (sgn (k / s) (k % s)) (n + 1) * data.getD k 0 % 97)) (ei_zip (xs := iL (marksL g s)) (ys := iL data) (by walk_at "ev")) (by rw [iL_len, iL_len]; omega) fun k hk => ?_)) ea_nil) (c_sumL (ns := (List.range (g * s)).map fun k => pw (sgn (k / s) (k % s)) (n + 1) * data.getD k 0 % 97) ?_)) ?_) ea_nil)) cl_plus rfl
      · have hk' : k < g * s := by rw [iL_len, iL_len] at hk; omega
        rw [getD_iL (by omega), getD_iL (by omega)]
        have em : (marksL g s).getD k 0 = sgn (k / s) (k % s) := getD_mapR _ hk'
        rw [em]
        have q1 : (pw (sgn (k / s) (k % s)) (n + 1)).natAbs < 2 ^ 7 := by
          unfold pw
          have a := Int.emod_nonneg (sgn (k / s) (k % s) ^ (n + 1)) (show (97 : Int) ≠ 0 by decide)
          have c := Int.emod_lt_of_pos (sgn (k / s) (k % s) ^ (n + 1)) (show (0 : Int) < 97 by decide)
          omega
        have q2 := getD_abs' hb k
        have cm : CMulW (pw (sgn (k / s) (k % s)) (n + 1)) (data.getD k 0) := cmul_of 7 250 q1 q2
        have en : ((1 : Int) + (n : Int)).toNat = n + 1 := by omega
        have cp : Cal fd_power [.int (sgn (k / s) (k % s)), .int (1 + (n : Int))] (.int (pw (sgn (k / s) (k % s)) (n + 1))) := by
          have q := cl_power (i := sgn (k / s) (k % s)) (n := 1 + (n : Int)) (by omega)
          rw [en] at q
          exact q
        exact ⟨_, by walk_at "tg", fun b0 => ev_cal (es := [.int (pw (sgn (k / s) (k % s)) (n + 1)), .int (data.getD k 0)]) (ea_cons (ev_cal (by walk_at "ev") cp rfl) (by walk_at "ev")) (cl_times cm) rfl⟩
      · rw [iL_len, iL_len, lm, hl, Nat.min_self, List.map_map]
        rfl
      · rw [sm_range]
    · rintro ds' b' ⟨s7, s8, s9, s10, s11, s12, s13, rfl, rfl⟩
      have eu : ((u : Int) + 1 - 1).toNat = u := by omega
      rw [eu]
      exact w_retO (i := 6) rfl ⟨by walk_at "b", g, s, u, data, rfl, rfl⟩

def fd_unit_fillings : Fd := { n := 1, dom := fun ds => ∃ g s u : Nat, ds = [shD g s u] ∧ ShOk g s u, res := fun ds d => ∃ g s u : Nat, ds = [shD g s u] ∧ d = .lst (rL (unitsV g s u)) }
theorem cl_unit_fillings {g s u : Nat} (h : ShOk g s u) : Cal fd_unit_fillings [shD g s u] (.lst (rL (unitsV g s u))) := ⟨rfl, ⟨g, s, u, rfl, h⟩, rfl, fun d ⟨g', s', u', e, q⟩ => by
  injection e with e2 e
  obtain ⟨rfl, rfl, rfl⟩ := shD_inj e2
  exact q, fun _ _ q => q⟩
theorem ok_unit_fillings (T : Txt K mg) : FnOk P w K mg base (L2.CX P w) 5 T.f_unit_fillings T.fd_unit_fillings ["shape"] (SpD K fd_unit_fillings) := by
  refine fn_data (dvs := []) (kws := []) (N := N_unit_fillings) (.inr T.F_unit_fillings) sc_unit_fillings rfl (fun cdv A outer s H E hr tk => ?_)
  refine ⟨_, (pss_cons (ps_set (i := 1) sc_unit_fillings.nd rfl (Or.inr rfl) (pe_callB (g_len (K := K) rfl) rfl T.b_len boot_len (pa_cons (pe_cl0 (m := 1) (ok_data_places T) (hr.mono (by decide)) rfl T.g_data_places T.k_data_places T.b_data_places_0_shape (passD tk) (pk_cons (pv 0) pk_nil)) pa_nil)))
      (pss_one (ps_ret (pe_lc (own := [("own", 2)]) rfl sc_unit_fillings.nd (pi_range1 rfl T.b_range (pa_cons (pv 1) pa_nil)) (blkOk_by (own := [("own", 2)]) (N := N_unit_fillings) (sc := defScope s_unit_fillings) (by decide +kernel)) (fun _ _ _ _ _ => (pg_name (i := 2) sc_unit_fillings.nd rfl (Or.inr rfl))) (fun _ _ _ _ _ => pts_nil) (fun _ _ _ _ _ => (pe_cl (m := 0) (ok_filled T) (hr.mono (by decide)) rfl T.g_filled T.k_filled T.b_filled pass_never (pa_cons (pe_lc (own := [("at", 3)]) rfl sc_unit_fillings.nd (pi_range1 rfl T.b_range (pa_cons (pv 1) pa_nil)) (Sh.BlkOk.rel (blkOk_by (own := [("at", 3)]) (N := N_unit_fillings) (sc := (scopeOf (valOf ((defBody s_unit_fillings).getD 1 (.Pass ⟨0, 0, 0, 0⟩))))) (by decide +kernel))) (fun _ _ _ _ _ => (pg_name (i := 3) sc_unit_fillings.nd rfl (Or.inl rfl))) (fun _ _ _ _ _ => pts_nil) (fun _ _ _ _ _ => (pe_callTy g_int rfl T.b_int boot_int (pa_cons (pe_cmpR (g_eq (K := K) rfl hr) (pv 3) (pv 2) (nomark _)) pa_nil)))) (pa_cons (pv 0) pa_nil)) pk_nil)))))), fun ds N' b hl hd acc => ?_⟩
  obtain ⟨g, s, u, rfl, h⟩ := hd
  obtain ⟨⟨g0, g1⟩, ⟨s0, s1⟩, u1⟩ := h.nat
  have hgs : g * s ≤ 16 := Nat.mul_le_mul g1 s1
  have cd : Cal (fd_data_places T.t_NoShape) [shD g s u] (.lst (iL (dataP g s))) := cl_data_places h
  refine w_seq (w_asg (d := .int ((g * s : Nat) : Int)) (EvD.eq (ev_cb (ea_cons (ev_calK (p := true) (es := []) (fs := [shD g s u]) (by walk_at "ev") (by walk_at "ev") cd rfl rfl) ea_nil) c_lenL) (by rw [iL_len, dataP_len'])) ?_)
  refine w_ret (d := .lst (rL (unitsV g s u))) (EvD.eq (ev_lc1 (fun k => .lst (iL (fillV g s u (unitD (g * s) k)))) (ei_r1 (p := true) (n := ((g * s : Nat) : Int)) (by walk_at "ev") (by omega)) (by omega) fun k hk => ?_) ?_) ⟨by walk_at "b", g, s, u, rfl, rfl⟩
  · have cf := cl_filled (data := unitD (g * s) k) h (by simp [unitD]) fun x hx => by have := unit_bd _ _ x hx; omega
    refine ⟨_, tg_name, fun b0 => ev_cal (es := [.lst (iL (unitD (g * s) k)), shD g s u]) (ea_cons (EvD.eq (ev_lc1 (fun i => .int (if decide ((i : Int) = (k : Int)) = true then 1 else 0)) (ei_r1 (p := true) (n := ((g * s : Nat) : Int)) (by walk_at "ev") (by omega)) (by omega) fun i hi => ⟨_, tg_name, fun b1 => by walk_at "ev"⟩) ?_) (by walk_at "ev")) cf rfl⟩
    rw [Int.toNat_natCast]
    unfold unitD iL
    rw [List.map_map]
    congr 1
    apply List.map_congr_left
    intro i _
    show D.int _ = D.int _
    by_cases e : i = k
    · subst e; simp
    · have e2 : ¬ (i : Int) = (k : Int) := by omega
      simp [e, e2]
  · rw [Int.toNat_natCast]
    unfold unitsV rL
    rw [List.map_map]
    rfl

def fd_checks_of : Fd := { n := 3, dom := fun ds => ∃ (l : List Int) (w : Int) (g s u : Nat), ds = [.lst (iL l), .int w, shD g s u] ∧ ShOk g s u ∧ l.length ≤ 1000, res := fun ds d => ∃ (l : List Int) (w : Int) (g s u : Nat), ds = [.lst (iL l), .int w, shD g s u] ∧ d = .lst (rL (chkOf g s u l w)) }
theorem cl_checks_of {l : List Int} {w : Int} {g s u : Nat} (h : ShOk g s u) (hl : l.length ≤ 1000) : Cal fd_checks_of [.lst (iL l), .int w, shD g s u] (.lst (rL (chkOf g s u l w))) := ⟨rfl, ⟨l, w, g, s, u, rfl, h, hl⟩, rfl, fun d ⟨l', w', g', s', u', e, q⟩ => by
  injection e with e1 e
  injection e with e2 e
  injection e with e3 e
  obtain ⟨rfl, rfl, rfl⟩ := shD_inj e3
  injection e1 with e1
  injection e2 with e2
  rw [q, iL_inj e1, e2], fun _ _ q => q⟩
theorem rows_cnt (g s u : Nat) : (rowsV g s u).length = g + u := by simp [rowsV]
theorem ok_checks_of (T : Txt K mg) : FnOk P w K mg base (L2.CX P w) 11 T.f_checks_of T.fd_checks_of ["left", "wanted", "shape"] (SpD K fd_checks_of) := by
  refine fn_data (dvs := []) (kws := []) (N := N_checks_of) (.inr T.F_checks_of) sc_checks_of rfl (fun cdv A outer s H E hr tk => ?_)
  refine ⟨_, (pss_cons (ps_set (i := 3) sc_checks_of.nd rfl (Or.inl rfl) (pe_cl0 (m := 1) (ok_checks T) (hr.mono (by decide)) rfl T.g_checks T.k_checks T.b_checks_0_shape (passD tk) (pk_cons (pv 2) pk_nil)))
      (pss_cons (ps_for (passes_of rfl) rfl (pi_range1 rfl T.b_range (pa_cons (pe_cl0 (m := 1) (ok_count T) (hr.mono (by decide)) rfl T.g_count T.k_count T.b_count_0_shape (passD tk) (pk_cons (pv 2) pk_nil)) pa_nil)) (pg_name (i := 4) sc_checks_of.nd rfl (Or.inl rfl)) (pss_one (ps_if (PW.pt (pw_and (pt_cmpR (g_ne (K := K) rfl hr) (pv 4) (pv 1) (nomark _)) (pw_and1 (pt_cmpR (g_notin (K := K) rfl hr) (pv 4) (pv 0) (by rfl))))) (pss_one (ps_set (i := 3) sc_checks_of.nd rfl (Or.inl rfl) (pe_cl (m := 0) (ok_cleared T) (hr.mono (by decide)) rfl T.g_cleared T.k_cleared T.b_cleared (passD tk) (pa_cons (pv 3) (pa_cons (pv 4) pa_nil)) pk_nil))) pss_nil)))
      (pss_one (ps_ret (pv 3))))), fun ds N' b hl hd acc => ?_⟩
  obtain ⟨l, w, g, s, u, rfl, h, hl⟩ := hd
  obtain ⟨⟨g0, g1⟩, ⟨s0, s1⟩, u1⟩ := h.nat
  have hm := h.many
  have cc : Cal (fd_count T.t_NoShape) [shD g s u] (.int (many g s u : Nat)) := by
    have q := cl_count (C := T.t_NoShape) h
    have hmi : ((g : Int) * ((s : Int) + 1) + u) = ((many g s u : Nat) : Int) := by unfold many; push_cast; rfl
    rw [hmi] at q
    exact q
  have ck : Cal (fd_checks T.t_NoShape) [shD g s u] (.lst (rL (rowsV g s u))) := cl_checks h
  refine w_seq (w_asg (d := .lst (rL (rowsV g s u))) (ev_calK (es := []) (fs := [shD g s u]) (by walk_at "ev") (by walk_at "ev") ck rfl rfl) ?_)
  have hmm : many g s u ≤ 22 := by unfold many; omega
  refine w_seq (w_for allV (fun i ds b' => ∃ s4 : Sd, ds = [.dat (.lst (iL l)), .dat (.int w), .dat (shD g s u), .dat (.lst (rL (clrL (rowsV g s u) ((List.range i).filter fun (p : Nat) => decide ((p : Int) ≠ w) && !decide ((p : Int) ∈ l))))), s4] ∧ b' = fd_checks_of.cost [.lst (iL l), .int w, shD g s u] + b) (ei_r1 (p := true) (n := ((many g s u : Nat) : Int)) (ea_cons (ev_calK (es := []) (fs := [shD g s u]) (by walk_at "ev") (by walk_at "ev") cc rfl rfl) ea_nil) (by omega)) ⟨_, rfl, by rfl⟩ ?_ ?_)
  · rintro i ds' b' hi ⟨s4, rfl, rfl⟩
    rw [Int.toNat_natCast] at hi
    refine ⟨_, tg_name, ?_⟩
    have st : ∀ c : Bool, ((decide ((i : Int) ≠ w) && !decide ((i : Int) ∈ l)) = c) → clrL (rowsV g s u) ((List.range (i + 1)).filter fun (p : Nat) => decide ((p : Int) ≠ w) && !decide ((p : Int) ∈ l)) = bif c then clrV (clrL (rowsV g s u) ((List.range i).filter fun (p : Nat) => decide ((p : Int) ≠ w) && !decide ((p : Int) ∈ l))) i else clrL (rowsV g s u) ((List.range i).filter fun (p : Nat) => decide ((p : Int) ≠ w) && !decide ((p : Int) ∈ l)) := fun c hc => by
      rw [List.range_succ, List.filter_append, List.filter_cons, hc]
      cases c with
      | true => exact clrL_snoc _ _ _
      | false => simp
    have hR : ∀ r ∈ clrL (rowsV g s u) ((List.range i).filter fun (p : Nat) => decide ((p : Int) ≠ w) && !decide ((p : Int) ∈ l)), RowN (many g s u) r := clrL_rows rows_RowN
    have hL : (clrL (rowsV g s u) ((List.range i).filter fun (p : Nat) => decide ((p : Int) ≠ w) && !decide ((p : Int) ∈ l))).length ≤ 1000 := Nat.le_trans clrL_len (by rw [rows_cnt]; omega)
    generalize clrL (rowsV g s u) ((List.range i).filter fun (p : Nat) => decide ((p : Int) ≠ w) && !decide ((p : Int) ∈ l)) = rs at *
    refine w_if (c := decide ((i : Int) ≠ w) && !decide ((i : Int) ∈ l)) (EvT.eq (by walk_at "ev") (by simp)) (fun hc => ?_) (fun hc => w_next ?_)
    · have cl := cl_cleared (p := i) hR (by omega) hL hi
      refine w_asg (d := .lst (rL (clrV rs i))) (ev_cal (es := [.lst (rL rs), .int (i : Int)]) (by walk_at "ev") cl rfl) ?_
      rw [st true hc]
      exact ⟨_, rfl, rfl⟩
    · rw [st false hc]
      exact ⟨_, rfl, rfl⟩
  · rintro ds' b' ⟨s4, rfl, rfl⟩
    rw [Int.toNat_natCast]
    exact w_ret (by walk_at "ev") ⟨by walk_at "b", l, w, g, s, u, rfl, rfl⟩

def fd_ghost_of : Fd := { n := 3, dom := fun ds => ∃ (l : List Int) (w : Nat) (g s u : Nat), ds = [.lst (iL l), .int w, shD g s u] ∧ ShOk g s u ∧ (∀ p ∈ l, 0 ≤ p ∧ p < (many g s u : Nat)) ∧ w < many g s u, res := fun ds d => ∃ (l : List Int) (w : Nat) (g s u : Nat), ds = [.lst (iL l), .int w, shD g s u] ∧ d = optR (ghoRow g s u l w) }
theorem cl_ghost_of {l : List Int} {w : Nat} {g s u : Nat} (h : ShOk g s u) (hl : ∀ p ∈ l, 0 ≤ p ∧ p < (many g s u : Nat)) (hw : w < many g s u) : Cal fd_ghost_of [.lst (iL l), .int w, shD g s u] (optR (ghoRow g s u l w)) := ⟨rfl, ⟨l, w, g, s, u, rfl, h, hl, hw⟩, rfl, fun d ⟨l', w', g', s', u', e, q⟩ => by
  injection e with e1 e
  injection e with e2 e
  injection e with e3 e
  obtain ⟨rfl, rfl, rfl⟩ := shD_inj e3
  injection e1 with e1
  injection e2 with e2
  rw [q, iL_inj e1, show w = w' by omega], fun _ _ q => q⟩
theorem units_cnt (g s u : Nat) : (unitsV g s u).length = g * s := by simp [unitsV]
theorem ok_ghost_of (T : Txt K mg) : FnOk P w K mg base (L2.CX P w) 6 T.f_ghost_of T.fd_ghost_of ["left", "wanted", "shape"] (SpD K fd_ghost_of) := by
  refine fn_data (dvs := []) (kws := []) (N := N_ghost_of) (.inr T.F_ghost_of) sc_ghost_of rfl (fun cdv A outer s H E hr tk => ?_)
  refine ⟨_, (pss_cons (ps_set (i := 3) sc_ghost_of.nd rfl (Or.inl rfl) (pe_cl (m := 0) (ok_unit_fillings T) (hr.mono (by decide)) rfl T.g_unit_fillings T.k_unit_fillings T.b_unit_fillings (passD tk) (pa_cons (pv 2) pa_nil) pk_nil))
      (pss_cons (ps_for (passes_of rfl) rfl (g_list (K := K) rfl (pv 0)) (pg_name (i := 4) sc_ghost_of.nd rfl (Or.inl rfl)) (pss_one (ps_set (i := 3) sc_ghost_of.nd rfl (Or.inl rfl) (pe_cl (m := 0) (ok_cleared T) (hr.mono (by decide)) rfl T.g_cleared T.k_cleared T.b_cleared (passD tk) (pa_cons (pv 3) (pa_cons (pv 4) pa_nil)) pk_nil))))
      (pss_one (ps_ret (pe_cl (m := 0) (ok_row_at T) (hr.mono (by decide)) rfl T.g_row_at T.k_row_at T.b_row_at (passD tk) (pa_cons (pv 3) (pa_cons (pv 1) pa_nil)) pk_nil))))), fun ds N' b hl hd acc => ?_⟩
  obtain ⟨l, w, g, s, u, rfl, h, hl, hw⟩ := hd
  obtain ⟨⟨g0, g1⟩, ⟨s0, s1⟩, u1⟩ := h.nat
  have hm := h.many
  have hmm : many g s u ≤ 22 := by unfold many; omega
  have hgs : g * s ≤ 16 := Nat.mul_le_mul g1 s1
  have ck := cl_unit_fillings h
  refine w_seq (w_asg (d := .lst (rL (unitsV g s u))) (ev_cal (es := [shD g s u]) (by walk_at "ev") ck rfl) ?_)
  refine w_seq (w_for allV (fun i ds b' => ∃ s4 : Sd, ds = [.dat (.lst (iL l)), .dat (.int w), .dat (shD g s u), .dat (.lst (rL (clrL (unitsV g s u) ((l.take i).map Int.toNat)))), s4] ∧ b' = fd_ghost_of.cost [.lst (iL l), .int w, shD g s u] + b) (ei_list (by walk_at "ev")) ⟨_, rfl, by rfl⟩ ?_ ?_)
  · rintro i ds' b' hi ⟨s4, rfl, rfl⟩
    rw [iL_len] at hi
    rw [getD_iL hi]
    refine ⟨_, tg_name, ?_⟩
    have e1 : l.getD i 0 = l[i] := by rw [List.getD_eq_getElem?_getD, List.getElem?_eq_getElem hi]; rfl
    have hb := hl _ (List.getElem_mem hi)
    rw [← e1] at hb
    have st : clrL (unitsV g s u) ((l.take (i + 1)).map Int.toNat) = clrV (clrL (unitsV g s u) ((l.take i).map Int.toNat)) (l.getD i 0).toNat := by
      rw [List.take_succ_eq_append_getElem hi, List.map_append, ← e1]
      exact clrL_snoc _ _ _
    rw [st]
    have hR : ∀ r ∈ clrL (unitsV g s u) ((l.take i).map Int.toNat), RowN (many g s u) r := clrL_rows units_RowN
    have hL : (clrL (unitsV g s u) ((l.take i).map Int.toNat)).length ≤ 1000 := Nat.le_trans clrL_len (by rw [units_cnt]; omega)
    generalize clrL (unitsV g s u) ((l.take i).map Int.toNat) = rs at *
    obtain ⟨p, hp⟩ := Int.eq_ofNat_of_zero_le hb.1
    rw [hp] at hb ⊢
    rw [Int.toNat_natCast]
    have cl := cl_cleared (p := p) hR (by omega) hL (by omega)
    exact w_asg (d := .lst (rL (clrV rs p))) (ev_cal (es := [.lst (rL rs), .int (p : Int)]) (by walk_at "ev") cl rfl) ⟨_, rfl, rfl⟩
  · rintro ds' b' ⟨s4, rfl, rfl⟩
    rw [iL_len, List.take_length]
    have hR : ∀ r ∈ ghoOf g s u l, RowN (many g s u) r := clrL_rows units_RowN
    have hL : (ghoOf g s u l).length ≤ 1000 := Nat.le_trans clrL_len (by rw [units_cnt]; omega)
    have cr := cl_row_at (p := w) hR hL hw
    have e : ghoRow g s u l w = rowAtV (ghoOf g s u l) w := by unfold ghoRow; rw [Int.toNat_natCast]
    refine w_ret (d := optR (ghoRow g s u l w)) (EvD.eq (ev_cal (es := [.lst (rL (ghoOf g s u l)), .int w]) (by walk_at "ev") cr rfl) (by rw [e])) ⟨by walk_at "b", l, w, g, s, u, rfl, rfl⟩

--OPT mut 1
--OPT fdarg T.t_Recipe
def fd_Recipe_init (C : Addr) : Fm := { n := 3, dom := fun t ds => t = t0C C ∧ ∃ (w : Int) (r f : List Int), ds = [.int w, .lst (iL r), .lst (iL f)], res := fun t ds t' d => d = .non ∧ ∃ (w : Int) (r f : List Int), ds = [.int w, .lst (iL r), .lst (iL f)] ∧ t' = full 2 (recD C w r f) }
theorem ew_Recipe {G : Gx} {b b1 : Nat} {t : TA} {ds : List Sd} {E : L2.St → XK} {C : Addr} {w : Int} {r f : List Int} (ha : EaD G true b b1 t ds [.int w, .lst (iL r), .lst (iL f)]) : EvW G 2 b b1 (tMk C 3 0 (SpM G.K (fd_Recipe_init C)) (fun vs _ => vs) E t tNil) ds (fun d => d = recD C w r f) :=
  ew_mk ha rfl rfl ⟨rfl, w, r, f, rfl⟩ rfl (fun t' d ⟨e, w', r', f', e2, e3⟩ => by
    injection e2 with h1 e2
    injection e2 with h2 e2
    injection e2 with h3 e2
    injection h1 with h1
    injection h2 with h2
    injection h3 with h3
    rw [h1, iL_inj h2, iL_inj h3]
    exact ⟨e, e3⟩) fun _ _ _ q => q
theorem ok_Recipe_init (T : Txt K mg) : FnOk P w K mg base (L2.CX P w) 1 T.f_Recipe_init T.fd_Recipe_init ["self", "wanted", "reads", "factors"] (SpM K (fd_Recipe_init T.t_Recipe)) := by
  refine mut_fn (dvs := []) (kws := []) (N := N_Recipe_init) (.inr T.F_Recipe_init) sc_Recipe_init rfl (fun cdv A outer s H E hr tk => ?_)
  refine ⟨_, (pss_cons (g_sfld (K := K) rfl (pv 0) (pv 1))
      (pss_cons (g_sfld (K := K) rfl (pv 0) (pe_callTy (g_listof (K := K) rfl) rfl T.b_list boot_list (pa_cons (pv 2) pa_nil)))
      (pss_one (g_sfld (K := K) rfl (pv 0) (pe_callTy (g_listof (K := K) rfl) rfl T.b_list boot_list (pa_cons (pv 3) pa_nil)))))), fun a Fr tr N' ds b hl hd acc => ?_⟩
  obtain ⟨rfl, w, r, f, rfl⟩ := hd
  have lst : ∀ {G : Gx} {b : Nat} {ds : List Sd} {i : Nat} {xs : List Int}, ds[i]? = some (.dat (.lst (iL xs))) → EuD G b b (tCB (rListOf G.K) (tCons (tVar i) tNil)) ds (full 1 (.lst (iL xs))) := fun h => eu_full ((EvO.evw (eo_list (ea_cons (ev_var h) ea_nil) rfl)).imp fun d ⟨xs, e1, e2⟩ => by rw [e1, e2])
  refine w_seq (ws_fldN (i := 0) rfl (eu_leaf (d := .int w) (ev_var rfl)) ef_var T.in_Recipe.cl T.na_Recipe_wanted (fun z => by cases z) (by decide) fun u F1 e h1 => ?_)
  subst e
  refine w_seq (ws_fldN (i := 0) rfl (lst (xs := r) rfl) ef_var T.in_Recipe.cl T.na_Recipe_reads (by decide) (show _ from (by decide : 1 < 900)) fun u F2 e h2 => ?_)
  subst e
  refine ws_fldN (i := 0) rfl (lst (xs := f) rfl) ef_var T.in_Recipe.cl T.na_Recipe_factors (by decide) (show _ from (by decide : 2 < 900)) fun u F3 e h3 => ?_
  subst e
  obtain ⟨Fr', rfl⟩ := head_cons ((h3.trans h2).trans h1)
  exact ⟨by walk_at "b", _, Fr', rfl, rfl, w, r, f, rfl, rfl⟩

--OPT fdarg T.t_Recipe
def fd_recipe_by (C : Addr) : Fd := { n := 2, dom := fun ds => ∃ (n : Nat) (row : List Int) (w : Nat), ds = [.lst (iL row), .int w] ∧ RowN n row ∧ n ≤ 1000 ∧ w < n ∧ row.getD w 0 ≠ 0, res := fun ds d => ∃ (row : List Int) (w : Nat), ds = [.lst (iL row), .int w] ∧ d = recD C w (readsV row w) (facsV row w), own := true, own2 := 4 }
theorem cl_recipe_by {C : Addr} {n w : Nat} {row : List Int} (hr : RowN n row) (hn : n ≤ 1000) (hw : w < n) (hne : row.getD w 0 ≠ 0) : Cal (fd_recipe_by C) [.lst (iL row), .int w] (recD C w (readsV row w) (facsV row w)) := ⟨rfl, ⟨n, row, w, rfl, hr, hn, hw, hne⟩, rfl, fun d ⟨r', w', e, q⟩ => by
  injection e with e1 e
  injection e with e2 e
  injection e1 with e1
  injection e2 with e2
  rw [q, iL_inj e1, show w = w' by omega], fun _ _ q => q⟩
theorem ok_recipe_by (T : Txt K mg) : FnOk P w K mg base (L2.CX P w) 4 T.f_recipe_by T.fd_recipe_by ["row", "wanted"] (SpD K (fd_recipe_by T.t_Recipe)) := by
  refine fn_data (dvs := []) (kws := []) (N := N_recipe_by) (.inr T.F_recipe_by) sc_recipe_by rfl (fun cdv A outer s H E hr tk => ?_)
  refine ⟨_, (pss_cons (ps_set (i := 2) sc_recipe_by.nd rfl (Or.inr rfl) (pe_cl (m := 0) (ok_over T) (hr.mono (by decide)) rfl T.g_over T.k_over T.b_over (passD tk) (pa_cons (pe_op g_sub (pe_glob (v := .int 97) rfl T.c_PRIME ⟨_, rfl⟩) pe_int) (pa_cons (pe_ix (g_ix (K := K) rfl hr) (pv 0) (pv 1) (fun _ _ => rfl)) pa_nil)) pk_nil))
      (pss_cons (ps_setLc (i := 3) (own := [("place", 4), ("factor", 5)]) rfl sc_recipe_by.nd rfl rfl (sw_true rfl rfl rfl (by decide +kernel)) (g_enum (K := K) rfl rfl T.b_enumerate (pa_cons (pv 0) pa_nil)) (blkOk_by (own := [("place", 4), ("factor", 5)]) (N := N_recipe_by) (sc := defScope s_recipe_by) (by decide +kernel)) (fun _ _ _ _ _ => (g_tup (K := K) (n := 2) rfl rfl (pgs_cons (pg_name (i := 4) sc_recipe_by.nd rfl (Or.inl rfl)) (pgs_cons (pg_name (i := 5) sc_recipe_by.nd rfl (Or.inl rfl)) pgs_nil)))) (fun _ _ _ _ _ => (pts_one (PW.pt (pw_and (pt_cmpR (g_ne (K := K) rfl hr) (pv 5) pe_int (nomark _)) (pw_and1 (pt_cmpR (g_ne (K := K) rfl hr) (pv 4) (pv 1) (nomark _))))))) (fun _ _ _ _ _ => (pv 4)))
      (pss_one (ps_ret (pe_mk_ (m := 0) T.mk_Recipe (ok_Recipe_init T) (hr.mono (by decide)) rfl T.g_Recipe T.b_Recipe_init (passD tk) (pa_cons (pv 1) (pa_cons (pv 3) (pa_cons (pe_lc (own := [("place", 4)]) rfl sc_recipe_by.nd (g_list (K := K) rfl (pv 3)) (blkOk_by (own := [("place", 4)]) (N := N_recipe_by) (sc := defScope s_recipe_by) (by decide +kernel)) (fun _ _ _ _ _ => (pg_name (i := 4) sc_recipe_by.nd rfl (Or.inl rfl))) (fun _ _ _ _ _ => pts_nil) (fun _ _ _ _ _ => (pe_cl (m := 0) (ok_times T) (hr.mono (by decide)) rfl T.g_times T.k_times T.b_times pass_never (pa_cons (pv 2) (pa_cons (pe_ix (g_ix (K := K) rfl hr) (pv 0) (pv 4) (fun _ _ => rfl)) pa_nil)) pk_nil))) pa_nil))) pk_nil))))), fun ds N' b hl hd acc => ?_⟩
  obtain ⟨n, row, w, rfl, hr, hn, hw, hne⟩ := hd
  have hb := hr.at w
  have hat : L2.atI (iL row) (w : Int) = some (.int (row.getD w 0)) := atI_iL (by rw [hr.1]; exact hw)
  have co : Cal fd_over [.int (97 - 1), .int (row.getD w 0)] (.int (backV row w)) := cl_over (i := 97 - 1) (j := row.getD w 0) (by omega) (by decide)
  refine w_seq (w_asg (d := .int (backV row w)) (ev_cal (es := [.int (97 - 1), .int (row.getD w 0)]) (by walk_at "ev") co rfl) ?_)
  have hbk : 0 ≤ backV row w ∧ backV row w < 97 := ⟨Int.emod_nonneg _ (by decide), Int.emod_lt_of_pos _ (by decide)⟩
  refine w_seq (w_asg (d := .lst (iL (readsV row w))) (EvD.eq (ev_lc (fun i => decide (row.getD i 0 ≠ 0) && decide (i ≠ w)) (fun i => .int (i : Int)) (ei_enum (xs := iL row) (by walk_at "ev")) (by rw [iL_len, hr.1]; omega) fun i hi => ?_) ?_) ?_)
  · rw [iL_len] at hi
    rw [getD_iL hi]
    refine ⟨_, by walk_at "tg", fun b0 => ⟨EvT.eq (by walk_at "ev") ?_, fun _ => by walk_at "ev"⟩⟩
    by_cases h1 : row.getD i 0 = 0
    · rw [h1]; simp
    · by_cases h2 : i = w
      · simp [h2]
      · have h3 : ¬ (i : Int) = (w : Int) := by omega
        simp [h2, h3]
  · rw [iL_len]
    unfold readsV readsN iL
    rw [List.map_map]
    rfl
  · refine ws_retW (ew_Recipe (f := facsV row w) (ea_cons (by walk_at "ev") (ea_cons (by walk_at "ev") (ea_cons (EvD.eq (ev_lc1 (fun k => .int (backV row w * row.getD ((readsN row w).getD k 0) 0 % 97)) (ei_list (xs := iL (readsV row w)) (by walk_at "ev")) (by
        rw [iL_len]
        unfold readsV readsN
        rw [List.length_map]
        exact Nat.le_trans (List.length_filter_le _ _) (by rw [List.length_range, hr.1]; omega)) fun k hk => ?_) ?_) ea_nil)))) fun d e => ⟨by walk_at "b", row, w, rfl, e⟩
    · rw [iL_len] at hk
      have hk' : k < (readsN row w).length := by unfold readsV at hk; rw [List.length_map] at hk; exact hk
      have e1 : (iL (readsV row w)).getD k .non = .int (((readsN row w).getD k 0 : Nat) : Int) := by
        rw [getD_iL hk]
        unfold readsV
        rw [List.getD_eq_getElem?_getD, List.getD_eq_getElem?_getD, List.getElem?_map, List.getElem?_eq_getElem hk']
        rfl
      rw [e1]
      have hm : (readsN row w).getD k 0 ∈ readsN row w := by
        rw [List.getD_eq_getElem?_getD, List.getElem?_eq_getElem hk']; exact List.getElem_mem hk'
      have hl := (reads_mem.mp hm).1
      generalize (readsN row w).getD k 0 = p at *
      have hat2 : L2.atI (iL row) (p : Int) = some (.int (row.getD p 0)) := atI_iL hl
      have hpb := hr.at p
      have ct : Cal fd_times [.int (backV row w), .int (row.getD p 0)] (.int (backV row w * row.getD p 0 % 97)) := cl_times (cmul_of 10 10 (by omega) (by omega))
      exact ⟨_, by walk_at "tg", fun b0 => ev_cal (es := [.int (backV row w), .int (row.getD p 0)]) (by walk_at "ev") ct rfl⟩
    · rw [iL_len]
      have el : (readsV row w).length = (readsN row w).length := by unfold readsV; rw [List.length_map]
      rw [el]
      unfold facsV iL
      rw [List.map_map]
      congr 1
      apply List.ext_getElem
      · simp
      · intro k h1 h2
        have hk' : k < (readsN row w).length := by simpa using h1
        have e9 : (readsN row w).getD k 0 = (readsN row w)[k] := by rw [List.getD_eq_getElem?_getD, List.getElem?_eq_getElem hk']; rfl
        rw [List.getElem_map, List.getElem_map, List.getElem_range, e9]
        rfl

--OPT fdarg T.t_NoShape T.t_NoPlace T.t_Hidden T.t_Recipe
def hidE (CH : Addr) (l : List Int) (w g s u : Nat) (X : Addr) (fs : List (Str × D)) : Prop := (w : Int) ∉ l ∧ recRow g s u l w = none ∧ X = CH ∧ ∃ gh, ghoRow g s u l w = some gh ∧ fs = [(("ghost" : Str), .lst (iL gh)), (("place" : Str), .int w)]
def recOf (CR : Addr) (l : List Int) (w g s u : Nat) (r : D) : Prop := ((w : Int) ∈ l ∧ r = recD CR w [(w : Int)] [1]) ∨ ((w : Int) ∉ l ∧ ∃ row, recRow g s u l w = some row ∧ r = recD CR w (readsV row w) (facsV row w))
def fd_recipe (CS CP CH CR : Addr) : Fd := { n := 3, dom := fun ds => ∃ (l : List D) (t d : D), ds = [.lst l, t, d] ∧ plainT d ∧ plainK t = true ∧ l.length ≤ 1000 ∧ ∀ x ∈ l, plainK x = true, res := fun ds r => ∃ (l : List Int) (w g s u : Nat), ds = [.lst (iL l), .int w, shD g s u] ∧ ShOk g s u ∧ (∀ p ∈ l, 0 ≤ p ∧ p < (many g s u : Nat)) ∧ w < many g s u ∧ recOf CR l w g s u r, exn := fun ds X fs => ∃ (l : List D) (t d : D), ds = [.lst l, t, d] ∧ (exS CS d X fs ∨ ∃ g s u : Nat, d = shD g s u ∧ ShOk g s u ∧ (noPl g s u CP l X fs ∨ ((∀ x ∈ l, isPl g s u x = true) ∧ noPl g s u CP [t] X fs) ∨ ∃ (li : List Int) (w : Nat), l = iL li ∧ t = .int w ∧ (∀ p ∈ li, 0 ≤ p ∧ p < (many g s u : Nat)) ∧ w < many g s u ∧ hidE CH li w g s u X fs)), own := true, own2 := 4 }
theorem plainK_iL (l : List Int) : ∀ x ∈ iL l, plainK x = true := fun x hx => by
  obtain ⟨i, _, rfl⟩ := List.mem_map.mp hx
  rfl
theorem noPl_no {g s u : Nat} {C : Addr} {l : List D} {X : Addr} {fs : List (Str × D)} (h : ∀ x ∈ l, isPl g s u x = true) : ¬ noPl g s u C l X fs := fun ⟨i, t, h1, _, h2, _⟩ => by
  rw [h t (List.mem_of_getElem? h1)] at h2
  cases h2
theorem isPl_iL {g s u : Nat} {l : List Int} (h : ∀ p ∈ l, 0 ≤ p ∧ p < (many g s u : Nat)) : ∀ x ∈ iL l, isPl g s u x = true := fun x hx => by
  obtain ⟨i, hi, rfl⟩ := List.mem_map.mp hx
  exact isPl_int (h i hi)
/-- of places alone -/
theorem recipe_exn {CS CP CH CR : Addr} {l : List Int} {w g s u : Nat} {X : Addr} {fs : List (Str × D)} (h : ShOk g s u) (hl : ∀ p ∈ l, 0 ≤ p ∧ p < (many g s u : Nat)) (hw : w < many g s u) (e : (fd_recipe CS CP CH CR).exn [.lst (iL l), .int w, shD g s u] X fs) : hidE CH l w g s u X fs := by
  obtain ⟨l', t', d', e1, q⟩ := e
  injection e1 with h1 e1
  injection e1 with h2 e1
  injection e1 with h3 e1
  injection h1 with h1
  subst h1 h2 h3
  rcases q with q | ⟨g', s', u', e4, _, q⟩
  · exact absurd q (exS_no h)
  · obtain ⟨rfl, rfl, rfl⟩ := shD_inj e4
    rcases q with q | ⟨_, q⟩ | ⟨li, w', e5, e6, _, _, q⟩
    · exact absurd q (noPl_no (isPl_iL hl))
    · exact absurd q (noPl_no fun x hx => by rw [List.mem_singleton.mp hx]; exact isPl_int (by omega))
    · rw [iL_inj e5]
      injection e6 with e6
      rw [show w = w' by omega]
      exact q
theorem recipe_res {CS CP CH CR : Addr} {l : List Int} {w g s u : Nat} {r : D} (e : (fd_recipe CS CP CH CR).res [.lst (iL l), .int w, shD g s u] r) : recOf CR l w g s u r := by
  obtain ⟨l', w', g', s', u', e1, _, _, _, q⟩ := e
  injection e1 with h1 e1
  injection e1 with h2 e1
  injection e1 with h3 e1
  injection h1 with h1
  injection h2 with h2
  obtain ⟨rfl, rfl, rfl⟩ := shD_inj h3
  rw [iL_inj h1, show w = w' by omega]
  exact q
theorem recipe_dom {CS CP CH CR : Addr} {l : List Int} {w : Int} {g s u : Nat} (hl : l.length ≤ 1000) : (fd_recipe CS CP CH CR).dom [.lst (iL l), .int w, shD g s u] := ⟨iL l, .int w, shD g s u, rfl, plainT_sh g s u, rfl, by rw [iL_len]; exact hl, plainK_iL l⟩
theorem ok_recipe (T : Txt K mg) : FnOk P w K mg base (L2.CX P w) 12 T.f_recipe T.fd_recipe ["left", "wanted", "shape"] (SpD K (fd_recipe T.t_NoShape T.t_NoPlace T.t_Hidden T.t_Recipe)) := by
  refine fn_data (N := N_recipe) (.inl T.F_recipe) sc_recipe rfl (fun cdv A outer s H E hr tk => ?_)
  refine ⟨_, (pss_cons (ps_expr (pe_cl (m := 0) (ok_need_shape T) (hr.mono (by decide)) rfl T.g_need_shape T.k_need_shape T.b_need_shape (passD tk) (pa_cons (pv 2) pa_nil) pk_nil))
      (pss_cons (ps_expr (pe_cl (m := 0) (ok_need_places T) (hr.mono (by decide)) rfl T.g_need_places T.k_need_places T.b_need_places (passD tk) (pa_cons (pv 0) (pa_cons (pv 2) pa_nil)) pk_nil))
      (pss_cons (ps_expr (pe_cl (m := 0) (ok_need_places T) (hr.mono (by decide)) rfl T.g_need_places T.k_need_places T.b_need_places (passD tk) (pa_cons (pe_lst (pa_cons (pv 1) pa_nil)) (pa_cons (pv 2) pa_nil)) pk_nil))
      (pss_cons (ps_if (pt_cmpR (g_in (K := K) rfl hr) (pv 1) (pv 0) (by rfl)) (pss_one (ps_ret (pe_mk_ (m := 0) T.mk_Recipe (ok_Recipe_init T) (hr.mono (by decide)) rfl T.g_Recipe T.b_Recipe_init (passD tk) (pa_cons (pv 1) (pa_cons (pe_lst (pa_cons (pv 1) pa_nil)) (pa_cons (pe_lst (pa_cons pe_int pa_nil)) pa_nil))) pk_nil))) pss_nil)
      (pss_cons (ps_set (i := 3) sc_recipe.nd rfl (Or.inl rfl) (pe_cl (m := 0) (ok_row_at T) (hr.mono (by decide)) rfl T.g_row_at T.k_row_at T.b_row_at (passD tk) (pa_cons (pe_cl (m := 0) (ok_checks_of T) (hr.mono (by decide)) rfl T.g_checks_of T.k_checks_of T.b_checks_of (passD tk) (pa_cons (pv 0) (pa_cons (pv 1) (pa_cons (pv 2) pa_nil))) pk_nil) (pa_cons (pv 1) pa_nil)) pk_nil))
      (pss_cons (ps_if (pt_cmpR g_is (pv 3) pe_non (nomark _)) (pss_one (g_raise2 (K := K) rfl rfl (x_Hidden T) (hr.mono (by decide)) tk (by rfl) T.g_Hidden (pa_cons (pv 1) (pa_cons (pe_cl (m := 0) (ok_ghost_of T) (hr.mono (by decide)) rfl T.g_ghost_of T.k_ghost_of T.b_ghost_of (passD tk) (pa_cons (pv 0) (pa_cons (pv 1) (pa_cons (pv 2) pa_nil))) pk_nil) pa_nil)))) pss_nil)
      (pss_one (ps_ret (pe_cl (m := 0) (ok_recipe_by T) (hr.mono (by decide)) rfl T.g_recipe_by T.k_recipe_by T.b_recipe_by (passD tk) (pa_cons (pv 3) (pa_cons (pv 1) pa_nil)) pk_nil))))))))), fun ds N' b hl hd acc => ?_⟩
  obtain ⟨l, t, d, rfl, hpd, hpt, hl, hk⟩ := hd
  refine w_seq (ws_drop (b' := (fd_recipe T.t_NoShape T.t_NoPlace T.t_Hidden T.t_Recipe).cost [.lst l, t, d] + b) (evs_calX (es := [d]) (by walk_at "ev") rfl rfl ⟨d, rfl, hpd⟩ (Nat.le_of_eq (Nat.zero_add _)) acc (fun z => nomatch z) fun C x ⟨d', e, q⟩ => by cases e; exact ⟨Nat.le_add_left _ _, l, t, d, rfl, .inl q⟩) fun r ⟨d', e, hsh, _⟩ => ?_)
  cases e
  obtain ⟨g, s, u, rfl, h⟩ := isShape_inv hsh
  have hm := h.many
  have hmm : many g s u ≤ 22 := by unfold many; omega
  refine w_seq (ws_drop (b' := (fd_recipe T.t_NoShape T.t_NoPlace T.t_Hidden T.t_Recipe).cost [.lst l, t, shD g s u] + b) (evs_calX (es := [.lst l, shD g s u]) (by walk_at "ev") rfl rfl ⟨l, g, s, u, rfl, h, by omega, hk⟩ (Nat.le_of_eq (Nat.zero_add _)) acc (fun z => nomatch z) fun C x ⟨l', g', s', u', e, q⟩ => by
    injection e with e1 e
    injection e with e2 e
    injection e1 with e1
    obtain ⟨rfl, rfl, rfl⟩ := shD_inj e2
    subst e1
    exact ⟨Nat.le_add_left _ _, l, t, _, rfl, .inr ⟨g, s, u, rfl, h, .inl q⟩⟩) fun r ⟨l', g', s', u', e, hpl, _⟩ => ?_)
  injection e with e1 e
  injection e with e2 e
  injection e1 with e1
  obtain ⟨rfl, rfl, rfl⟩ := shD_inj e2
  subst e1
  refine w_seq (ws_drop (b' := (fd_recipe T.t_NoShape T.t_NoPlace T.t_Hidden T.t_Recipe).cost [.lst l, t, shD g s u] + b) (evs_calX (es := [.lst [t], shD g s u]) (by walk_at "ev") rfl rfl ⟨[t], g, s, u, rfl, h, by show 1 ≤ 100000; decide, fun x hx => by rw [List.mem_singleton.mp hx]; exact hpt⟩ (Nat.le_of_eq (Nat.zero_add _)) acc (fun z => nomatch z) fun C x ⟨l', g', s', u', e, q⟩ => by
    injection e with e1 e
    injection e with e2 e
    injection e1 with e1
    obtain ⟨rfl, rfl, rfl⟩ := shD_inj e2
    subst e1
    exact ⟨Nat.le_add_left _ _, l, t, _, rfl, .inr ⟨g, s, u, rfl, h, .inr (.inl ⟨hpl, q⟩)⟩⟩) fun r ⟨l', g', s', u', e, hpt2, _⟩ => ?_)
  injection e with e1 e
  injection e with e2 e
  injection e1 with e1
  obtain ⟨rfl, rfl, rfl⟩ := shD_inj e2
  subst e1
  obtain ⟨li, rfl, hli⟩ := places_ints hpl
  obtain ⟨ti, et, hti⟩ := places_ints hpt2
  have et2 : ∃ w : Nat, t = .int w ∧ w < many g s u := by
    cases ti with
    | nil => cases et
    | cons x xs =>
      injection et with e1 e2
      have hx := hti x List.mem_cons_self
      obtain ⟨w, rfl⟩ := Int.eq_ofNat_of_zero_le hx.1
      exact ⟨w, e1, by omega⟩
  obtain ⟨w, rfl, hw⟩ := et2
  have hl : li.length ≤ 1000 := by rw [iL_len] at *; assumption
  refine w_seq (w_if (c := decide ((w : Int) ∈ li)) (by walk_at "ev") (fun hin => ?_) (fun hin => w_next ?_))
  · have hin := of_decide_eq_true hin
    exact ws_retW (ew_Recipe (w := w) (r := [(w : Int)]) (f := [1]) (EaD.eq (by walk_at "ev") (by rfl))) fun d e => ⟨by walk_at "b", li, w, g, s, u, rfl, h, hli, hw, .inl ⟨hin, e⟩⟩
  · have hin := of_decide_eq_false hin
    have cc := cl_checks_of (w := (w : Int)) h hl
    have hR : ∀ r ∈ chkOf g s u li w, RowN (many g s u) r := fun r hr => (chk_rows r hr).row
    have cr := cl_row_at (p := w) hR (Nat.le_trans clrL_len (by rw [rows_cnt]; obtain ⟨⟨_, g1⟩, _, u1⟩ := h.nat; omega)) hw
    have e0 : recRow g s u li w = rowAtV (chkOf g s u li w) w := by unfold recRow; rw [Int.toNat_natCast]
    rw [← e0] at cr
    cases er : recRow g s u li w with
    | none =>
      refine w_seq (w_asg (d := .non) (EvD.eq (ev_cal (es := [.lst (rL (chkOf g s u li w)), .int w]) (ea_cons (ev_cal (es := [.lst (iL li), .int w, shD g s u]) (by walk_at "ev") cc rfl) (by walk_at "ev")) cr rfl) (by rw [er]; rfl)) ?_)
      refine w_seq (w_if (c := true) (by walk_at "ev") (fun _ => ?_) (fun z => nomatch z))
      obtain ⟨gh, eg⟩ := gho_some hw hli hin er
      have cg := cl_ghost_of h hli hw
      rw [eg] at cg
      refine w_raise2 acc T.o_Hidden T.n_Hidden_place T.n_Hidden_ghost (ea_cons (by walk_at "ev") (ea_cons (ev_cal (es := [.lst (iL li), .int w, shD g s u]) (by walk_at "ev") cg rfl) ea_nil)) ⟨by walk_at "b", iL li, .int w, _, rfl, .inr ⟨g, s, u, rfl, h, .inr (.inr ⟨li, w, rfl, rfl, hli, hw, hin, er, rfl, gh, eg, rfl⟩)⟩⟩
    | some row =>
      refine w_seq (w_asg (d := .lst (iL row)) (EvD.eq (ev_cal (es := [.lst (rL (chkOf g s u li w)), .int w]) (ea_cons (ev_cal (es := [.lst (iL li), .int w, shD g s u]) (by walk_at "ev") cc rfl) (by walk_at "ev")) cr rfl) (by rw [er]; rfl)) ?_)
      rw [e0] at er
      obtain ⟨hm1, hne⟩ := rowAt_some er
      have hrow := hR row hm1
      have cb := cl_recipe_by (C := T.t_Recipe) hrow (by omega) hw hne
      refine w_seq (w_if (c := false) (by walk_at "ev") (fun z => nomatch z) (fun _ => w_next ?_))
      refine ws_retW (ew_cal (es := [.lst (iL row), .int w]) (by walk_at "ev") cb rfl) fun d e => ⟨by walk_at "b", li, w, g, s, u, rfl, h, hli, hw, .inr ⟨hin, row, by rw [e0]; exact er, e⟩⟩

--OPT fdarg T.t_Recipe
def lostL (m : Nat) (l : List Int) : List Nat := (List.range m).filter fun (p : Nat) => !decide ((p : Int) ∈ l)
def rowOf (g s u : Nat) (l : List Int) (p : Nat) : List Int := (recRow g s u l p).getD []
def recsK (CR : Addr) (g s u : Nat) (l : List Int) : List (Key × D) := ((lostL (many g s u) l).filter fun (p : Nat) => (recRow g s u l p).isSome).map fun (p : Nat) => (Sum.inl (p : Int), recD CR p (readsV (rowOf g s u l p) p) (facsV (rowOf g s u l p) p))
theorem lostL_nd (m : Nat) (l : List Int) : (lostL m l).Nodup := (List.nodup_range).filter _
theorem lostL_mem {m : Nat} {l : List Int} {p : Nat} : p ∈ lostL m l ↔ p < m ∧ (p : Int) ∉ l := by
  unfold lostL
  rw [List.mem_filter, List.mem_range]
  simp
def fd_recipes (CR : Addr) : Fd := { n := 2, dom := fun ds => ∃ (l : List Int) (g s u : Nat), ds = [.lst (iL l), shD g s u] ∧ ShOk g s u ∧ l.length ≤ 1000 ∧ ∀ p ∈ l, 0 ≤ p ∧ p < (many g s u : Nat), res := fun ds d => ∃ (l : List Int) (g s u : Nat), ds = [.lst (iL l), shD g s u] ∧ d = .dct (recsK CR g s u l), own := true, own2 := 5 }
theorem cl_recipes {C : Addr} {l : List Int} {g s u : Nat} (h : ShOk g s u) (hl : l.length ≤ 1000) (hb : ∀ p ∈ l, 0 ≤ p ∧ p < (many g s u : Nat)) : Cal (fd_recipes C) [.lst (iL l), shD g s u] (.dct (recsK C g s u l)) := ⟨rfl, ⟨l, g, s, u, rfl, h, hl, hb⟩, rfl, fun d ⟨l', g', s', u', e, q⟩ => by
  injection e with e1 e
  injection e with e3 e
  obtain ⟨rfl, rfl, rfl⟩ := shD_inj e3
  injection e1 with e1
  rw [q, iL_inj e1], fun _ _ q => q⟩
theorem ok_recipes (T : Txt K mg) : FnOk P w K mg base (L2.CX P w) 12 T.f_recipes T.fd_recipes ["left", "shape"] (SpD K (fd_recipes T.t_Recipe)) := by
  refine fn_data (N := N_recipes) (.inl T.F_recipes) sc_recipes rfl (fun cdv A outer s H E hr tk => ?_)
  refine ⟨_, (pss_cons (ps_setLc (i := 2) (own := [("place", 4)]) rfl sc_recipes.nd rfl rfl (sw_true rfl rfl rfl (by decide +kernel)) (pi_range1 rfl T.b_range (pa_cons (pe_cl0 (m := 1) (ok_count T) (hr.mono (by decide)) rfl T.g_count T.k_count T.b_count_0_shape (passD tk) (pk_cons (pv 1) pk_nil)) pa_nil)) (blkOk_by (own := [("place", 4)]) (N := N_recipes) (sc := defScope s_recipes) (by decide +kernel)) (fun _ _ _ _ _ => (pg_name (i := 4) sc_recipes.nd rfl (Or.inl rfl))) (fun _ _ _ _ _ => (pts_one (pt_cmpR (g_notin (K := K) rfl hr) (pv 4) (pv 0) (by rfl)))) (fun _ _ _ _ _ => (pv 4)))
      (pss_cons (ps_expr (pe_cl (m := 0) (ok_need_places T) (hr.mono (by decide)) rfl T.g_need_places T.k_need_places T.b_need_places (passD tk) (pa_cons (pv 0) (pa_cons (pv 1) pa_nil)) pk_nil))
      (pss_cons (ps_setDc (i := 3) (own := [("place", 4)]) rfl sc_recipes.nd rfl rfl (sw_trueD rfl rfl rfl (by decide +kernel)) (g_list (K := K) rfl (pv 2)) (blkOk_by (own := [("place", 4)]) (N := N_recipes) (sc := defScope s_recipes) (by decide +kernel)) (fun _ _ _ _ _ => (pg_name (i := 4) sc_recipes.nd rfl (Or.inl rfl))) (fun _ _ _ _ _ => pts_nil) (fun _ _ _ _ _ => (pv 4)) (fun _ _ _ _ _ => (pe_cl (m := 0) (ok_row_at T) (hr.mono (by decide)) rfl T.g_row_at T.k_row_at T.b_row_at pass_never (pa_cons (pe_cl (m := 0) (ok_checks_of T) (hr.mono (by decide)) rfl T.g_checks_of T.k_checks_of T.b_checks_of pass_never (pa_cons (pv 0) (pa_cons (pv 4) (pa_cons (pv 1) pa_nil))) pk_nil) (pa_cons (pv 4) pa_nil)) pk_nil)))
      (pss_one (ps_ret (pe_lk (pe_dc (own := [("place", 4), ("row", 5)]) rfl sc_recipes.nd (pi_items (pv 3)) (blkOk_by (own := [("place", 4), ("row", 5)]) (N := N_recipes) (sc := defScope s_recipes) (by decide +kernel)) (fun _ _ _ _ _ => (g_tup (K := K) (n := 2) rfl rfl (pgs_cons (pg_name (i := 4) sc_recipes.nd rfl (Or.inl rfl)) (pgs_cons (pg_name (i := 5) sc_recipes.nd rfl (Or.inl rfl)) pgs_nil)))) (fun _ _ _ _ _ => (pts_one (pt_cmpR g_isnot (pv 5) pe_non (nomark _)))) (fun _ _ _ _ _ => (pv 4)) (fun _ _ _ _ _ => (pe_cl (m := 0) (ok_recipe_by T) (hr.mono (by decide)) rfl T.g_recipe_by T.k_recipe_by T.b_recipe_by pass_never (pa_cons (pv 5) (pa_cons (pv 4) pa_nil)) pk_nil))))))))), fun ds N' b hl hd acc => ?_⟩
  obtain ⟨l, g, s, u, rfl, h, hl, hb⟩ := hd
  have hm := h.many
  have hmm : many g s u ≤ 22 := by unfold many; omega
  have cc : Cal (fd_count T.t_NoShape) [shD g s u] (.int (many g s u : Nat)) := by
    have q := cl_count (C := T.t_NoShape) h
    have hmi : ((g : Int) * ((s : Int) + 1) + u) = ((many g s u : Nat) : Int) := by unfold many; push_cast; rfl
    rw [hmi] at q
    exact q
  refine w_seq (w_asg (d := .lst (iL ((lostL (many g s u) l).map fun (p : Nat) => (p : Int)))) (EvD.eq (ev_lc (fun i => !decide ((i : Int) ∈ l)) (fun i => .int (i : Int)) (ei_r1 (p := true) (n := ((many g s u : Nat) : Int)) (ea_cons (ev_calK (es := []) (fs := [shD g s u]) (by walk_at "ev") (by walk_at "ev") cc rfl rfl) ea_nil) (by omega)) (by omega) fun i hi => ⟨_, tg_name, fun b0 => ⟨by walk_at "ev", fun _ => by walk_at "ev"⟩⟩) (by
    rw [Int.toNat_natCast]
    unfold lostL iL
    rw [List.map_map]
    rfl)) ?_)
  refine w_seq (ws_drop (b' := (fd_recipes T.t_Recipe).cost [.lst (iL l), shD g s u] + b) (evs_calX (es := [.lst (iL l), shD g s u]) (by walk_at "ev") rfl rfl ⟨iL l, g, s, u, rfl, h, by rw [iL_len]; omega, fun x hx => by obtain ⟨i, _, rfl⟩ := List.mem_map.mp hx; rfl⟩ (Nat.le_of_eq (Nat.zero_add _)) acc (fun z => nomatch z) fun C x ⟨l', g', s', u', e, q⟩ => by
    injection e with e1 e
    injection e with e2 e
    injection e1 with e1
    obtain ⟨rfl, rfl, rfl⟩ := shD_inj e2
    subst e1
    obtain ⟨i, t, q1, _, q2, _⟩ := q
    have := List.mem_of_getElem? q1
    obtain ⟨p, hp, rfl⟩ := List.mem_map.mp this
    rw [isPl_int (hb p hp)] at q2
    cases q2) fun r _ => ?_)
  have nd := lostL_nd (many g s u) l
  have hlen : (lostL (many g s u) l).length ≤ 22 := by
    unfold lostL
    exact Nat.le_trans (List.length_filter_le _ _) (by rw [List.length_range]; omega)
  have hmem : ∀ p ∈ lostL (many g s u) l, p < many g s u := fun p hp => (lostL_mem.mp hp).1
  generalize hLo : lostL (many g s u) l = Lo at *
  have notin : ∀ i, (hi : i < Lo.length) → Lo[i] ∉ Lo.take i := fun i hi z => by
    obtain ⟨j, hj, e⟩ := List.getElem_of_mem z
    rw [List.length_take] at hj
    rw [List.getElem_take] at e
    exact List.pairwise_iff_getElem.mp nd j i (by omega) hi (by omega) e
  have gd : ∀ i, (hi : i < Lo.length) → (Lo.map fun (p : Nat) => (p : Int)).getD i 0 = (Lo[i] : Int) := fun i hi => by
    rw [List.getD_eq_getElem?_getD, List.getElem?_map, List.getElem?_eq_getElem hi]; rfl
  refine w_seq (ws_asg (R := fun d => d = .dct (Lo.map fun (p : Nat) => (Sum.inl (p : Int), optR (recRow g s u l p)))) (EvS.imp (EvW.evs (ews_dc (lv := 0) 0 (fun i acc => acc = (Lo.take i).map fun (p : Nat) => (Sum.inl (p : Int), optR (recRow g s u l p))) (ei_list (xs := iL (Lo.map fun (p : Nat) => (p : Int))) (by walk_at "ev")) (by rw [iL_len, List.length_map]; omega) rfl (fun i acc hi hacc => ?_) (fun i acc hacc => by rw [hacc, List.length_map, List.length_take]; omega) (b' := (fd_recipes T.t_Recipe).cost [.lst (iL l), shD g s u] + b) (by omega))) fun d ⟨acc, e1, e2⟩ => ?_) fun d e => ?_)
  · rw [iL_len, List.length_map] at hi
    rw [getD_iL (by rw [List.length_map]; exact hi), gd i hi]
    refine ⟨_, tg_name, fun b0 => ⟨true, et_yes, fun _ => ⟨.inl (Lo[i] : Int), ?_, by walk_at "ev", EvS.evw0 ?_⟩, fun z => nomatch z⟩⟩
    · rw [hacc, List.map_map]
      intro z
      obtain ⟨p, hp, ep⟩ := List.mem_map.mp z
      have ep : (Sum.inl (p : Int) : Key) = Sum.inl (Lo[i] : Int) := ep
      have : p = Lo[i] := by injection ep with ep; omega
      exact notin i hi (this ▸ hp)
    · have cck := cl_checks_of (w := (Lo[i] : Int)) h hl
      have hR : ∀ r ∈ chkOf g s u l (Lo[i] : Int), RowN (many g s u) r := fun r hr => (chk_rows r hr).row
      have cr := cl_row_at (p := Lo[i]) hR (Nat.le_trans clrL_len (by rw [rows_cnt]; obtain ⟨⟨_, g1⟩, _, u1⟩ := h.nat; omega)) (hmem _ (List.getElem_mem hi))
      have e0 : recRow g s u l (Lo[i] : Int) = rowAtV (chkOf g s u l (Lo[i] : Int)) Lo[i] := by unfold recRow; rw [Int.toNat_natCast]
      rw [← e0] at cr
      refine EvD.to (ev_cal (es := [.lst (rL (chkOf g s u l (Lo[i] : Int))), .int (Lo[i] : Int)]) (ea_cons (ev_cal (es := [.lst (iL l), .int (Lo[i] : Int), shD g s u]) (ea_cons (ev_var rfl) (ea_cons (ev_var rfl) (ea_cons (ev_var rfl) ea_nil))) cck rfl) (ea_cons (ev_var rfl) ea_nil)) cr rfl) ?_
      rw [hacc, List.take_succ_eq_append_getElem hi, List.map_append]
      rfl
  · rw [e1, e2, iL_len, List.length_map, List.take_length]
  · subst e
    refine ws_retW (lv := 3) (ews_lock (fnd_var (i := 3) rfl) fun H0' v0 d kvs td => EvW.imp (ews_dc (lv := 2) 0 (fun i acc => acc = ((Lo.take i).filter fun (p : Nat) => (recRow g s u l p).isSome).map fun (p : Nat) => (Sum.inl (p : Int), recD T.t_Recipe p (readsV (rowOf g s u l p) p) (facsV (rowOf g s u l p) p))) (ei_items td) (by rw [List.length_map]; omega) rfl (fun i acc hi hacc => ?_) (fun i acc hacc => by
        rw [hacc, List.length_map]
        exact Nat.le_trans (List.length_filter_le _ _) (by rw [List.length_take]; omega)) (b' := (fd_recipes T.t_Recipe).cost [.lst (iL l), shD g s u] + b) (by omega)) (R' := fun d => d = .dct (recsK T.t_Recipe g s u l)) fun d ⟨acc, e1, e2⟩ => ?_) fun d e => ⟨by walk_at "b", l, g, s, u, rfl, e⟩
    · rw [List.length_map] at hi
      have ek : kAt (Lo.map fun (p : Nat) => (Sum.inl (p : Int), optR (recRow g s u l p))) i = .int (Lo[i] : Int) := by
        unfold kAt; rw [List.getElem?_map, List.getElem?_eq_getElem hi]; rfl
      have ev : vAt (Lo.map fun (p : Nat) => (Sum.inl (p : Int), optR (recRow g s u l p))) i = optR (recRow g s u l (Lo[i] : Int)) := by
        unfold vAt; rw [List.getElem?_map, List.getElem?_eq_getElem hi]; rfl
      rw [ek, ev]
      have hR : ∀ r ∈ chkOf g s u l (Lo[i] : Int), RowN (many g s u) r := fun r hr => (chk_rows r hr).row
      have e0 : recRow g s u l (Lo[i] : Int) = rowAtV (chkOf g s u l (Lo[i] : Int)) Lo[i] := by unfold recRow; rw [Int.toNat_natCast]
      have st : ∀ c : Bool, (recRow g s u l (Lo[i] : Int)).isSome = c → ((Lo.take (i + 1)).filter fun (p : Nat) => (recRow g s u l p).isSome) = ((Lo.take i).filter fun (p : Nat) => (recRow g s u l p).isSome) ++ (bif c then [Lo[i]] else []) := fun c hc => by
        rw [List.take_succ_eq_append_getElem hi, List.filter_append, List.filter_cons, hc]
        cases c <;> rfl
      cases er : recRow g s u l (Lo[i] : Int) with
      | none =>
        refine ⟨_, by walk_at "tg", fun b0 => ⟨false, et_tst (c := false) (ev_op (ev_var rfl) ev_non o_notN1), (fun z => nomatch z), fun _ => ?_⟩⟩
        rw [hacc, st false (by rw [er]; rfl)]
        exact (congrArg _ (List.append_nil _)).symm
      | some row =>
        rw [e0] at er
        obtain ⟨hm1, hne⟩ := rowAt_some er
        have hrow := hR row hm1
        have cb := cl_recipe_by (C := T.t_Recipe) hrow (by omega) (hmem _ (List.getElem_mem hi)) hne
        refine ⟨_, by walk_at "tg", fun b0 => ⟨true, by walk_at "ev", fun _ => ⟨.inl (Lo[i] : Int), ?_, by walk_at "ev", EvW.imp (ew_cal (es := [.lst (iL row), .int (Lo[i] : Int)]) (ea_cons (ev_var rfl) (ea_cons (ev_var rfl) ea_nil)) cb rfl) fun d e => ?_⟩, fun z => nomatch z⟩⟩
        · rw [hacc, List.map_map]
          intro z
          obtain ⟨p, hp, ep⟩ := List.mem_map.mp z
          have ep : (Sum.inl (p : Int) : Key) = Sum.inl (Lo[i] : Int) := ep
          have : p = Lo[i] := by injection ep with ep; omega
          exact notin i hi (this ▸ (List.mem_filter.mp hp).1)
        · rw [e, hacc, st true (by rw [e0, er]; rfl), List.map_append]
          have er2 : rowOf g s u l Lo[i] = row := by unfold rowOf; rw [e0, er]; rfl
          show _ = _ ++ [(Sum.inl (Lo[i] : Int), recD T.t_Recipe (Lo[i] : Int) (readsV (rowOf g s u l Lo[i]) Lo[i]) (facsV (rowOf g s u l Lo[i]) Lo[i]))]
          rw [er2]
    · rw [e1, e2, List.length_map, List.take_length]
      unfold recsK
      rw [hLo]

--OPT own 1
theorem ok__law_purse (T : Txt K mg) : FnOk P w K mg base (L2.CX P w) 1 T.f__law_purse T.fd__law_purse ["script", "k"] (SpD K fdMake) := by
  refine make_fn (N := N__law_purse) T.F__law_purse sc__law_purse rfl (fun cdv A outer s H E hr tk => ?_)
  refine ⟨_, (pss_cons (ps_set (i := 2) sc__law_purse.nd rfl (Or.inl rfl) pe_int)
      (pss_cons (ps_if (pt_cmpR g_lt (pv 1) (pe_callB (g_len (K := K) rfl) rfl T.b_len boot_len (pa_cons (pv 0) pa_nil)) (nomark _)) (pss_one (ps_set (i := 2) sc__law_purse.nd rfl (Or.inl rfl) (pe_ix (g_ix (K := K) rfl hr) (pv 0) (pv 1) (fun _ _ => rfl)))) pss_nil)
      (pss_one (ps_ret (pe_lst (pa_cons (pe_callB (g_max rfl) rfl T.b_max boot_max (pa_cons pe_int (pa_cons (pe_op g_sub (pv 2) (pe_op g_pow pe_int pe_int)) pa_nil))) (pa_cons (pe_op (g_add (K := K) rfl) (pe_op g_mod (pv 2) (pe_op (g_add (K := K) rfl) (pe_op g_pow pe_int pe_int) pe_int)) (pe_op g_mul pe_int (pv 1))) (pa_cons pe_int pa_nil)))))))), fun M0 ns k b hk0 hk1 => ?_⟩
  have key : ∀ c : Int, PGood 0 (max 0 (c - 10 ^ 18)) (c % (10 ^ 60 + 7) + 611953 * k) 0 := fun c => ⟨Int.le_refl _, Int.le_refl _, by
    have h1 := Int.emod_nonneg c (b := 10 ^ 60 + 7) (by decide)
    have h2 := Int.emod_lt_of_pos c (b := 10 ^ 60 + 7) (by decide)
    omega⟩
  refine w_seq (w_asg (by walk_at "ev") (w_seq (w_if (by walk_at "ev") (fun h => ?_) (fun h => ?_))))
  · have hk := of_decide_eq_true h
    have hg : k.toNat < ns.length := by omega
    refine w_asg (by walk_at "ev"; exact atI_nn hk0 (List.getElem?_eq_getElem hg)) ?_
    refine w_ret (by walk_at "ev") ?_
    exact ⟨Nat.le_refl _, _, _, rfl, key _⟩
  · refine w_next ?_
    refine w_ret (by walk_at "ev") ?_
    exact ⟨Nat.le_refl _, _, _, rfl, key _⟩

--OPT own 1
theorem ok__law_drawn (T : Txt K mg) : FnOk P w K mg base (L2.CX P w) 1 T.f__law_drawn T.fd__law_drawn ["purse", "many"] (SpD K fdDraw) := by
  refine draw_fn (N := N__law_drawn) T.F__law_drawn sc__law_drawn rfl (fun cdv A outer s H E hr tk => ?_)
  refine ⟨_, (pss_cons (ps_if (pt_cmpR g_gt (pe_ix (g_ix (K := K) rfl hr) (pv 0) pe_int (fun _ _ => rfl)) pe_int (nomark _)) (pss_cons (ps_set (i := 2) sc__law_drawn.nd rfl (Or.inl rfl) (pe_op g_mod (pe_ix (g_ix (K := K) rfl hr) (pv 0) pe_int (fun _ _ => rfl)) (pv 1)))
      (pss_cons (ps_asg (pe_op g_div (pe_ix (g_ix (K := K) rfl hr) (pv 0) pe_int (fun _ _ => rfl)) (pv 1)) (pg_sub (pv 0) pe_int (g_set hr)))
      (pss_one (ps_ret (pv 2))))) pss_nil)
      (pss_cons (ps_set (i := 3) sc__law_drawn.nd rfl (Or.inl rfl) (pe_op (g_add (K := K) rfl) (pe_ix (g_ix (K := K) rfl hr) (pv 0) pe_int (fun _ _ => rfl)) pe_int))
      (pss_cons (ps_asg (pv 3) (pg_sub (pv 0) pe_int (g_set hr)))
      (pss_cons (ps_set (i := 4) sc__law_drawn.nd rfl (Or.inl rfl) (pe_op g_mod (pe_op g_pow (pe_op (g_add (K := K) rfl) (pe_op (g_add (K := K) rfl) (pe_ix (g_ix (K := K) rfl hr) (pv 0) pe_int (fun _ _ => rfl)) (pe_op g_mul (pe_op g_mul pe_int (pv 3)) (pv 3))) (pe_op g_mul pe_int (pv 3))) pe_int) (pe_op (g_add (K := K) rfl) (pe_op g_pow pe_int pe_int) pe_int)))
      (pss_cons (ps_set (i := 4) sc__law_drawn.nd rfl (Or.inl rfl) (pe_op g_mod (pe_op g_pow (pe_op (g_add (K := K) rfl) (pv 4) (pe_op g_mul pe_int (pv 3))) pe_int) (pe_op (g_add (K := K) rfl) (pe_op g_pow pe_int pe_int) pe_int)))
      (pss_one (ps_ret (pe_op g_mod (pe_op g_div (pv 4) pe_int) (pv 1))))))))), fun p x y z m n b hm0 hm1 g hn => ?_⟩
  obtain ⟨g1, g2, g3⟩ := g
  have hL : LIM = 2 ^ 60 := rfl
  refine w_seq (w_if (by walk_at "ev") (fun h => ?_) (fun h => ?_))
  · refine w_seq (w_asg (by walk_at "ev") (w_seq ?_))
    refine w_setP rfl (by walk_at "ev"; exact wide_div hm0 (b := 201) (by omega) (by decide) (by decide)) (by walk_at "ev") (by decide) (by exact (by decide : (0 : Int) < 3)) ?_
    refine w_ret (by walk_at "ev") ?_
    exact ⟨Nat.le_refl _, x % m, x / m, y, z, rfl, Int.emod_nonneg _ (by omega), Int.emod_lt_of_pos _ hm0, rfl, g1, by omega, g3⟩
  · refine w_next ?_
    refine w_seq (w_asg (by walk_at "ev") (w_seq ?_))
    refine w_setP rfl (by walk_at "ev") (by walk_at "ev") (by decide) (by exact (by decide : (2 : Int) < 3)) ?_
    have hz : (z + 1).natAbs < 2 ^ 61 := by omega
    have h1 : (15485863 * (z + 1)).natAbs < 2 ^ 85 := by omega
    have h2 : (15485863 * (z + 1) * (z + 1)).natAbs < 2 ^ 146 := wide_lt (a := 85) (b := 61) h1 hz
    have h3 : (32452843 * (z + 1)).natAbs < 2 ^ 86 := by omega
    refine w_seq (ws_asg (R := fun d => ∃ q : Int, d = .int q ∧ 0 ≤ q ∧ q < 2 ^ 60) (EvD.to (by
      walk_at "ev"
      exact cpow_small 257 (by omega) (by decide) (by decide)) ⟨_, rfl, Int.emod_nonneg _ (by decide), Int.lt_trans (Int.emod_lt_of_pos _ (by decide)) (by decide)⟩) ?_)
    rintro _ ⟨q, rfl, q0, q1⟩
    refine w_seq (w_asg (by
      walk_at "ev"
      exact cpow_small 90 (by omega) (by decide) (by decide)) ?_)
    refine w_ret (by walk_at "ev"; exact wide_div (by decide) (b := 20) (by decide) (by decide) (by decide)) ?_
    exact ⟨Nat.le_refl _, _, x, y, z + 1, rfl, Int.emod_nonneg _ (by omega), Int.emod_lt_of_pos _ hm0, rfl, by omega, by omega, g3⟩

/-- shapes with at most so many places -/
def okSh (most : Int) (d : D) : Prop := ∃ g s u : Nat, d = shD g s u ∧ ShOk g s u ∧ (many g s u : Int) ≤ most
def fd__law_shape : Fd := { n := 2, dom := fun ds => ∃ most : Int, ds = [.purse, .int most] ∧ 2 ≤ most ∧ most ≤ 100, cost := fun _ => 1, res := fun ds d => ∃ most : Int, ds = [.purse, .int most] ∧ okSh most d }
theorem cas__law_shape {most : Int} (h : 2 ≤ most) (h2 : most ≤ 100) : Cas fd__law_shape [.purse, .int most] 1 (okSh most) := ⟨rfl, ⟨most, rfl, h, h2⟩, Nat.le_refl _, fun d ⟨m, e, q⟩ => by cases e; exact q, fun _ _ q => q⟩
theorem atI_ex {xs : List D} {i : Int} (h0 : 0 ≤ i) (h1 : i < xs.length) : ∃ d, L2.atI xs i = some d ∧ d ∈ xs := by
  have hi : i.toNat < xs.length := by omega
  exact ⟨xs[i.toNat], atI_nn h0 (List.getElem?_eq_getElem hi), List.getElem_mem hi⟩
theorem ok__law_shape (T : Txt K mg) : FnOk P w K mg base (L2.CX P w) 2 T.f__law_shape T.fd__law_shape ["purse", "most"] (SpD K fd__law_shape) := by
  refine fn_data (dvs := []) (kws := []) (N := N__law_shape) (.inr T.F__law_shape) sc__law_shape rfl (fun cdv A outer s H E hr tk => ?_)
  refine ⟨_, (pss_cons (ps_set (i := 2) sc__law_shape.nd rfl (Or.inl rfl) (pe_lst pa_nil))
      (pss_cons (ps_for (passes_of rfl) rfl (pi_range2 rfl T.b_range (pa_cons pe_int (pa_cons pe_int pa_nil))) (pg_name (i := 3) sc__law_shape.nd rfl (Or.inr rfl)) (pss_one (ps_for (passes_of rfl) rfl (pi_range2 rfl T.b_range (pa_cons pe_int (pa_cons pe_int pa_nil))) (pg_name (i := 4) sc__law_shape.nd rfl (Or.inr rfl)) (pss_one (ps_expr (g_bm (K := K) rfl PySem.F.plainAttrs_list PySem.F.slot_list_extend PySem.F.type_list_extend g_extend (pv 2) (pa_cons (pe_lc (own := [("sums", 5)]) rfl sc__law_shape.nd (pi_range1 rfl T.b_range (pa_cons pe_int pa_nil)) (blkOk_by (own := [("sums", 5)]) (N := N__law_shape) (sc := defScope s__law_shape) (by decide +kernel)) (fun _ _ _ _ _ => (pg_name (i := 5) sc__law_shape.nd rfl (Or.inl rfl))) (fun _ _ _ _ _ => (pts_one (pt_cmpR g_le (pe_op (g_add (K := K) rfl) (pe_op g_mul (pv 3) (pe_op (g_add (K := K) rfl) (pv 4) pe_int)) (pv 5)) (pv 1) (nomark _)))) (fun _ _ _ _ _ => (pe_tup (pa_cons (pv 3) (pa_cons (pv 4) (pa_cons (pv 5) pa_nil)))))) pa_nil)))))))
      (pss_one (ps_ret (pe_ix (g_ix (K := K) rfl hr) (pv 2) (pe_cl (m := 0) (ok__law_drawn T) (hr.mono (by decide)) rfl T.g__law_drawn T.k__law_drawn T.b__law_drawn (passD tk) (pa_cons (pv 0) (pa_cons (pe_callB (g_len (K := K) rfl) rfl T.b_len boot_len (pa_cons (pv 2) pa_nil)) pa_nil)) pk_nil) (fun _ _ => rfl)))))), fun ds N' b hl hd acc => ?_⟩
  obtain ⟨most, rfl, hm, hm2⟩ := hd
  have hc : fd__law_shape.cost [.purse, .int most] + b = b + 1 := by show 1 + b = b + 1; omega
  rw [hc]
  refine w_seq (w_own (es := []) (by walk_at "ev") ?_)
  refine w_seq (w_for allV (fun i ds b' => ∃ (xs : List D) (s3 s4 s5 : Sd), ds = [.dat .purse, .dat (.int most), .own xs, s3, s4, s5] ∧ (∀ x ∈ xs, okSh most x) ∧ xs.length ≤ 12 * i ∧ (0 < i → 0 < xs.length) ∧ b' = b + 1) (ei_r2 (m := 1) (n := 5) (by walk_at "ev") (by omega)) ⟨[], _, _, _, rfl, (fun x hx => by cases hx), Nat.zero_le _, (fun h => absurd h (Nat.lt_irrefl _)), rfl⟩ ?_ ?_)
  · rintro i ds' b' hi ⟨xs, s3, s4, s5, rfl, hx, hl, hn, rfl⟩
    have hi4 : i < 4 := hi
    refine ⟨_, tg_name, ?_⟩
    refine w_for allV (fun j ds b' => ∃ (ys : List D) (s4 s5 : Sd), ds = [.dat .purse, .dat (.int most), .own ys, .dat (.int (1 + (i : Int))), s4, s5] ∧ (∀ x ∈ ys, okSh most x) ∧ ys.length ≤ 12 * i + 3 * j ∧ (0 < i + j → 0 < ys.length) ∧ b' = b + 1) (ei_r2 (m := 1) (n := 5) (by walk_at "ev") (by omega)) ⟨xs, _, _, rfl, hx, by omega, fun h => hn (by omega), rfl⟩ ?_ ?_
    · rintro j ds2 b2 hj ⟨ys, s4, s5, rfl, hy, hly, hny, rfl⟩
      have hj4 : j < 4 := hj
      refine ⟨_, tg_name, ?_⟩
      refine w_ext (ys := ((List.range 3).filter fun (k : Nat) => decide ((1 + (i : Int)) * ((1 + (j : Int)) + 1) + (k : Int) ≤ most)).map fun (k : Nat) => D.tup [.int (1 + (i : Int)), .int (1 + (j : Int)), .int (k : Int)]) rfl (ev_lc (fun (k : Nat) => decide ((1 + (i : Int)) * ((1 + (j : Int)) + 1) + (k : Int) ≤ most)) (fun (k : Nat) => D.tup [.int (1 + (i : Int)), .int (1 + (j : Int)), .int (k : Int)]) (ei_r1 (n := 3) (by walk_at "ev") (by omega)) (by decide) fun k hk => ⟨_, tg_name, fun b0 => ⟨by walk_at "ev", fun _ => by walk_at "ev"⟩⟩) ?_ ?_
      · rw [List.length_map]
        have := List.length_filter_le (fun (k : Nat) => decide ((1 + (i : Int)) * ((1 + (j : Int)) + 1) + (k : Int) ≤ most)) (List.range 3)
        rw [List.length_range] at this
        omega
      · have hlen := List.length_filter_le (fun (k : Nat) => decide ((1 + (i : Int)) * ((1 + (j : Int)) + 1) + (k : Int) ≤ most)) (List.range 3)
        rw [List.length_range] at hlen
        refine ⟨_, _, _, rfl, fun x hx => ?_, ?_, fun _ => ?_, rfl⟩
        · rcases List.mem_append.mp hx with hx | hx
          · exact hy x hx
          · obtain ⟨k, hk, rfl⟩ := List.mem_map.mp hx
            obtain ⟨k1, k2⟩ := List.mem_filter.mp hk
            have k1 := List.mem_range.mp k1
            have k2 := of_decide_eq_true k2
            refine ⟨i + 1, j + 1, k, ?_, ?_, ?_⟩
            · congr 1
              rw [show ((i + 1 : Nat) : Int) = 1 + (i : Int) by omega, show ((j + 1 : Nat) : Int) = 1 + (j : Int) by omega]
            · unfold ShOk; omega
            · unfold many
              push_cast
              rw [show (i : Int) + 1 = 1 + (i : Int) by omega, show (j : Int) + 1 = 1 + (j : Int) by omega]
              exact k2
        · rw [List.length_append, List.length_map]
          omega
        · rw [List.length_append, List.length_map]
          by_cases hij : 0 < i + j
          · have := hny hij
            omega
          · have hi0 : i = 0 := by omega
            have hj0 : j = 0 := by omega
            subst hi0 hj0
            have q : 0 < ((List.range 3).filter fun (k : Nat) => decide ((1 + ((0 : Nat) : Int)) * ((1 + ((0 : Nat) : Int)) + 1) + (k : Int) ≤ most)).length := by
              apply List.length_pos_of_mem (a := 0)
              rw [List.mem_filter]
              exact ⟨by decide, decide_eq_true (by show (1 + ((0 : Nat) : Int)) * ((1 + ((0 : Nat) : Int)) + 1) + ((0 : Nat) : Int) ≤ most; simp; omega)⟩
            omega
    · rintro ds2 b2 ⟨ys, s4, s5, rfl, hy, hly, hny, rfl⟩
      exact ⟨ys, _, _, _, rfl, hy, by have : (5 - 1 : Int).toNat = 4 := rfl; omega, fun _ => hny (by have : (5 - 1 : Int).toNat = 4 := rfl; omega), rfl⟩
  · rintro ds' b' ⟨xs, s3, s4, s5, rfl, hx, hl, hn, rfl⟩
    have h4 : (5 - 1 : Int).toNat = 4 := rfl
    rw [h4] at hl hn
    have hn := hn (by decide)
    refine ws_ret (R := okSh most) (evs_op (R1 := fun d => d = .lst xs) (R2' := fun _ y => ∃ i : Int, y = .int i ∧ 0 ≤ i ∧ i < xs.length) (ev_own rfl) (fun _ _ => evs_cal (b' := b) (c := 1) (by walk_at "ev") (cas_draw (m := (xs.length : Int)) (by omega) (by omega)) rfl (by omega)) fun x y hx1 ⟨i, e, h0, h1⟩ => ?_) ?_
    · subst hx1 e
      obtain ⟨d, e, hd⟩ := atI_ex h0 h1
      exact (o_ixL e).to (hx d hd)
    · intro d hd
      exact ⟨Nat.le_refl _, most, rfl, hd⟩

def fd__law_filled : Fd := { n := 2, dom := fun ds => ∃ (g s u : Nat) (data : List Int), ds = [shD g s u, .lst (iL data)] ∧ ShOk g s u ∧ data.length = g * s ∧ ∀ x ∈ data, x.natAbs < 2 ^ 250, res := fun ds d => ∃ (g s u : Nat) (data : List Int), ds = [shD g s u, .lst (iL data)] ∧ d = .lst (iL (fillV g s u data)) }
theorem cl__law_filled {g s u : Nat} {data : List Int} (h : ShOk g s u) (hl : data.length = g * s) (hb : ∀ x ∈ data, x.natAbs < 2 ^ 250) : Cal fd__law_filled [shD g s u, .lst (iL data)] (.lst (iL (fillV g s u data))) := ⟨rfl, ⟨g, s, u, data, rfl, h, hl, hb⟩, rfl, fun d ⟨g', s', u', dt, e, q⟩ => by
  injection e with e2 e
  obtain ⟨rfl, rfl, rfl⟩ := shD_inj e2
  injection e with e3 e
  injection e3 with e3
  rw [q, iL_inj e3], fun _ _ q => q⟩
local macro_rules | `(tactic| walk_at "cal") => `(tactic| (apply cl__law_filled <;> first | assumption | omega | skip))
/-- the first n numbers of the filling -/
def fillT (g s : Nat) (data : List Int) (n : Nat) : List Int := (List.range n).map (fillF g s fun i => data.getD i 0)
def ovT (s e i : Nat) (data : List Int) : Int := sm i (fun i => sm s (fun j => sgn i j ^ e * data.getD (i * s + j) 0))
def ovT2 (s e i j : Nat) (data : List Int) : Int := ovT s e i data + sm j (fun j => sgn i j ^ e * data.getD (i * s + j) 0)
theorem cutD {data : List Int} {g s i : Nat} (hi : i < g) (hl : data.length = g * s) : slcD (iL data) (some ((i * s : Nat) : Int)) (some ((i * s + s : Nat) : Int)) = iL ((List.range s).map fun j => data.getD (i * s + j) 0) := by
  have hb : (i + 1) * s ≤ g * s := Nat.mul_le_mul_right s hi
  rw [Nat.add_mul, Nat.one_mul] at hb
  unfold slcD
  rw [iL_len, HT.sIx_nat, HT.sIx_nat]
  have e1 : min (i * s) data.length = i * s := by omega
  have e2 : min (i * s + s) data.length = i * s + s := by omega
  rw [e1, e2, show i * s + s - i * s = s by omega]
  simp only [iL, ← List.map_drop, ← List.map_take]
  congr 1
  apply List.ext_getElem
  · simp; omega
  · intro j h1 h2
    have hj : j < s := by simpa using h2
    have q : i * s + j < data.length := by omega
    rw [List.getElem_take, List.getElem_drop, List.getElem_map, List.getElem_range, List.getD_eq_getElem?_getD, List.getElem?_eq_getElem q]
    rfl
theorem fillT_step {g s i : Nat} {data : List Int} (hi : i < g) : fillT g s data (i * (s + 1)) ++ (List.range s).map (fun j => data.getD (i * s + j) 0) ++ [sm s (fun j => data.getD (i * s + j) 0) % 97] = fillT g s data ((i + 1) * (s + 1)) := by
  unfold fillT
  rw [Nat.add_mul, Nat.one_mul, List.range_add, List.map_append, List.append_assoc]
  congr 1
  rw [List.range_succ, List.map_append, List.map_append, List.map_map]
  congr 1
  · apply List.map_congr_left
    intro j hj
    exact (fill_data (dt := fun i => data.getD i 0) hi (List.mem_range.mp hj)).symm
  · show _ = [fillF g s _ (i * (s + 1) + s)]
    rw [fill_loc hi]
theorem getD_abs {v : List Int} (h : ∀ x ∈ v, x.natAbs < 2 ^ 250) (i : Nat) : (v.getD i 0).natAbs < 2 ^ 250 := by
  rw [List.getD_eq_getElem?_getD]
  cases e : v[i]? with
  | none => decide
  | some n => exact h n (List.mem_of_getElem? e)
theorem ok__law_filled (T : Txt K mg) : FnOk P w K mg base (L2.CX P w) 1 T.f__law_filled T.fd__law_filled ["mould", "data"] (SpD K fd__law_filled) := by
  refine fn_data (dvs := []) (kws := []) (N := N__law_filled) (.inr T.F__law_filled) sc__law_filled rfl (fun cdv A outer s H E hr tk => ?_)
  refine ⟨_, (pss_cons (ps_asg (pv 0) (g_tup (K := K) (n := 3) rfl rfl (pgs_cons (pg_name (i := 2) sc__law_filled.nd rfl (Or.inl rfl)) (pgs_cons (pg_name (i := 3) sc__law_filled.nd rfl (Or.inl rfl)) (pgs_cons (pg_name (i := 4) sc__law_filled.nd rfl (Or.inl rfl)) pgs_nil)))))
      (pss_cons (ps_set (i := 5) sc__law_filled.nd rfl (Or.inl rfl) (pe_lst pa_nil))
      (pss_cons (ps_set (i := 6) sc__law_filled.nd rfl (Or.inl rfl) (pe_lst (pa_cons pe_int (pa_cons pe_int pa_nil))))
      (pss_cons (ps_for (passes_of rfl) rfl (pi_range1 rfl T.b_range (pa_cons (pv 2) pa_nil)) (pg_name (i := 7) sc__law_filled.nd rfl (Or.inl rfl)) (pss_cons (ps_set (i := 8) sc__law_filled.nd rfl (Or.inl rfl) (pe_slice (g_slice (K := K) rfl) (pv 1) (po_some (pe_op g_mul (pv 7) (pv 3))) (po_some (pe_op (g_add (K := K) rfl) (pe_op g_mul (pv 7) (pv 3)) (pv 3)))))
      (pss_cons (ps_set (i := 5) sc__law_filled.nd rfl (Or.inl rfl) (pe_op (g_add (K := K) rfl) (pe_op (g_add (K := K) rfl) (pv 5) (pv 8)) (pe_lst (pa_cons (pe_op g_mod (pe_callB (g_sum (K := K) rfl rfl) rfl T.b_sum boot_sum (pa_cons (pv 8) pa_nil)) pe_int) pa_nil))))
      (pss_one (ps_for (passes_of rfl) rfl (pi_range1 rfl T.b_range (pa_cons (pv 3) pa_nil)) (pg_name (i := 9) sc__law_filled.nd rfl (Or.inl rfl)) (pss_cons (ps_set (i := 10) sc__law_filled.nd rfl (Or.inl rfl) (pe_op (g_add (K := K) rfl) (pe_ix (g_ix (K := K) rfl hr) (pe_lst (pa_cons pe_int (pa_cons pe_int (pa_cons pe_int (pa_cons pe_int pa_nil))))) (pv 7) (fun _ _ => rfl)) (pv 9)))
      (pss_one (ps_set (i := 6) sc__law_filled.nd rfl (Or.inl rfl) (pe_lst (pa_cons (pe_op (g_add (K := K) rfl) (pe_ix (g_ix (K := K) rfl hr) (pv 6) pe_int (fun _ _ => rfl)) (pe_op g_mul (pv 10) (pe_ix (g_ix (K := K) rfl hr) (pv 8) (pv 9) (fun _ _ => rfl)))) (pa_cons (pe_op (g_add (K := K) rfl) (pe_ix (g_ix (K := K) rfl hr) (pv 6) pe_int (fun _ _ => rfl)) (pe_op g_mul (pe_op g_mul (pv 10) (pv 10)) (pe_ix (g_ix (K := K) rfl hr) (pv 8) (pv 9) (fun _ _ => rfl)))) pa_nil)))))))))))
      (pss_one (ps_ret (pe_op (g_add (K := K) rfl) (pv 5) (pe_lc (own := [("one", 11)]) rfl sc__law_filled.nd (g_list (K := K) rfl (pe_slice (g_slice (K := K) rfl) (pv 6) po_none (po_some (pv 4)))) (blkOk_by (own := [("one", 11)]) (N := N__law_filled) (sc := defScope s__law_filled) (by decide +kernel)) (fun _ _ _ _ _ => (pg_name (i := 11) sc__law_filled.nd rfl (Or.inl rfl))) (fun _ _ _ _ _ => pts_nil) (fun _ _ _ _ _ => (pe_op g_mod (pv 11) pe_int)))))))))), fun ds N' b hl hd acc => ?_⟩
  obtain ⟨g, s, u, data, rfl, h, hl, hb⟩ := hd
  obtain ⟨⟨g0, g1⟩, ⟨s0, s1⟩, u1⟩ := h.nat
  have hm := h.many
  have hmm : many g s u = g * (s + 1) + u := rfl
  refine w_seq (w_tg (by walk_at "ev") (by walk_at "tg") (w_seq ?_))
  refine w_asg (d := .lst []) (by walk_at "ev") (w_seq ?_)
  refine w_asg (d := .lst [.int 0, .int 0]) (by walk_at "ev") (w_seq ?_)
  refine w_for allV (fun i ds b' => ∃ s7 s8 s9 s10 s11 : Sd, ds = [.dat (shD g s u), .dat (.lst (iL data)), .dat (.int g), .dat (.int s), .dat (.int u), .dat (.lst (iL (fillT g s data (i * (s + 1))))), .dat (.lst [.int (ovT s 1 i data), .int (ovT s 2 i data)]), s7, s8, s9, s10, s11] ∧ b' = fd__law_filled.cost [shD g s u, .lst (iL data)] + b) (ei_r1 (n := (g : Int)) (by walk_at "ev") (by omega)) ⟨_, _, _, _, _, by rw [Nat.zero_mul]; rfl, by rfl⟩ ?_ ?_
  · rintro i ds' b' hi ⟨s7, s8, s9, s10, s11, rfl, rfl⟩
    rw [Int.toNat_natCast] at hi
    have hbb := blk_lt (b := s) hi (show s - 1 < s by omega)
    refine ⟨_, tg_name, ?_⟩
    have e1 : ((i : Int) * (s : Int)) = ((i * s : Nat) : Int) := by push_cast; rfl
    refine w_seq (w_asg (d := .lst (iL ((List.range s).map fun j => data.getD (i * s + j) 0))) (by
      rw [← cutD hi hl]
      exact ev_slice (by walk_at "ev") (ep_some (EvD.eq (by walk_at "ev") (by rw [e1]))) (ep_some (EvD.eq (by walk_at "ev") (by rw [e1]; push_cast; rfl))) sl_L) (w_seq ?_))
    refine w_asg (d := .lst (iL (fillT g s data ((i + 1) * (s + 1))))) (EvD.eq (ev_op (x := .lst (iL (fillT g s data (i * (s + 1)) ++ (List.range s).map fun j => data.getD (i * s + j) 0))) (by
      rw [iL_app]
      exact ev_op (by walk_at "ev") (by walk_at "ev") (o_catL (by
        simp [fillT]
        have : i * (s + 1) ≤ 4 * 5 := Nat.mul_le_mul (by omega) (by omega)
        omega))) (by walk_at "ev") (o_catL (by
        simp [fillT]
        have : i * (s + 1) ≤ 4 * 5 := Nat.mul_le_mul (by omega) (by omega)
        omega))) ?_) ?_
    · rw [← fillT_step hi, ← sm_range]
      simp [iL, List.map_append]
    refine w_for allV (fun j ds b' => ∃ s9 s10 s11 : Sd, ds = [.dat (shD g s u), .dat (.lst (iL data)), .dat (.int g), .dat (.int s), .dat (.int u), .dat (.lst (iL (fillT g s data ((i + 1) * (s + 1))))), .dat (.lst [.int (ovT2 s 1 i j data), .int (ovT2 s 2 i j data)]), .dat (.int i), .dat (.lst (iL ((List.range s).map fun j => data.getD (i * s + j) 0))), s9, s10, s11] ∧ b' = fd__law_filled.cost [shD g s u, .lst (iL data)] + b) (ei_r1 (n := (s : Int)) (by walk_at "ev") (by omega)) ⟨_, _, _, by rw [show ovT2 s 1 i 0 data = ovT s 1 i data from Int.add_zero _, show ovT2 s 2 i 0 data = ovT s 2 i data from Int.add_zero _]; rfl, by rfl⟩ ?_ ?_
    · rintro j ds2 b2 hj ⟨s9, s10, s11, rfl, rfl⟩
      rw [Int.toNat_natCast] at hj
      refine ⟨_, tg_name, ?_⟩
      have hat : L2.atI [D.int 1, D.int 11, D.int 40, D.int 30] (i : Int) = some (.int ([1, 11, 40, 30].getD i 0)) := by
        have hk : i = 0 ∨ i = 1 ∨ i = 2 ∨ i = 3 := by omega
        rcases hk with rfl | rfl | rfl | rfl <;> rfl
      refine w_seq (w_asg (d := .int (sgn i j)) (by walk_at "ev") ?_)
      have hown : L2.atI (iL ((List.range s).map fun j => data.getD (i * s + j) 0)) (j : Int) = some (.int (data.getD (i * s + j) 0)) := by
        rw [atI_iL (by simp; omega), getD_mapR _ hj]
      have q1 := sgn_bd i j (by omega)
      have q2 := getD_abs hb (i * s + j)
      have q3 : (sgn i j * sgn i j).natAbs < 2 ^ 12 := wide_lt (a := 6) (b := 6) q1 q1
      have c1 : CMulW (sgn i j) (data.getD (i * s + j) 0) := cmul_of 6 250 q1 q2
      have c2 : CMulW (sgn i j) (sgn i j) := cmul_of 6 6 q1 q1
      have c3 : CMulW (sgn i j * sgn i j) (data.getD (i * s + j) 0) := cmul_of 12 250 q3 q2
      refine w_asg (d := .lst [.int (ovT2 s 1 i (j + 1) data), .int (ovT2 s 2 i (j + 1) data)]) (EvD.eq (by walk_at "ev") ?_) ?_
      · have f1 : ovT2 s 1 i (j + 1) data = ovT2 s 1 i j data + sgn i j * data.getD (i * s + j) 0 := by
          unfold ovT2
          show _ + (sm j _ + sgn i j ^ 1 * _) = _
          rw [Int.pow_succ, Int.pow_zero, Int.one_mul, Int.add_assoc]
        have f2 : ovT2 s 2 i (j + 1) data = ovT2 s 2 i j data + sgn i j * sgn i j * data.getD (i * s + j) 0 := by
          unfold ovT2
          show _ + (sm j _ + sgn i j ^ 2 * _) = _
          rw [Int.pow_succ, Int.pow_succ, Int.pow_zero, Int.one_mul, Int.add_assoc]
        rw [f1, f2]
      · exact ⟨_, _, _, rfl, rfl⟩
    · rintro ds2 b2 ⟨s9, s10, s11, rfl, rfl⟩
      rw [Int.toNat_natCast]
      exact ⟨_, _, _, _, _, rfl, rfl⟩
  · rintro ds' b' ⟨s7, s8, s9, s10, s11, rfl, rfl⟩
    rw [Int.toNat_natCast]
    have fin : fillV g s u data = fillT g s data (g * (s + 1)) ++ (List.range u).map fun n => ovT s (n + 1) g data % 97 := by
      unfold fillV fillT many
      rw [List.range_add, List.map_append, List.map_map]
      congr 1
      apply List.map_congr_left
      intro n hn
      exact fill_ov
    refine w_ret (b' := fd__law_filled.cost [shD g s u, .lst (iL data)] + b) (d := .lst (iL (fillV g s u data))) ?_ ⟨by walk_at "b", g, s, u, data, rfl, rfl⟩
    rw [fin, iL_app]
    refine ev_op (by walk_at "ev") (EvD.wk (EvD.eq (ev_lc1 (fun n => .int (ovT s (n + 1) g data % 97)) (ei_list (xs := (List.range u).map fun n => .int (ovT s (n + 1) g data)) (EvD.eq (ev_slice (by walk_at "ev") ep_none (ep_some (by walk_at "ev")) sl_L) ?_)) (by simp; omega) fun i hi => ?_) ?_)) (o_catL (by
      simp [fillT]
      have : g * (s + 1) ≤ 4 * 5 := Nat.mul_le_mul (by omega) (by omega)
      omega))
    · have hu : u = 0 ∨ u = 1 ∨ u = 2 := by omega
      rcases hu with rfl | rfl | rfl <;> rfl
    · have hi' : i < u := by simpa using hi
      have e : ((List.range u).map fun n => D.int (ovT s (n + 1) g data)).getD i .non = .int (ovT s (i + 1) g data) := by
        rw [List.getD_eq_getElem?_getD, List.getElem?_map, List.getElem?_eq_getElem (by rw [List.length_range]; exact hi'), List.getElem_range]
        rfl
      rw [e]
      exact ⟨_, tg_name, fun b0 => by walk_at "ev"⟩
    · simp [iL]

def fd__law_whole : Fd := { n := 1, dom := fun ds => ∃ d : D, ds = [d] ∧ plainK d = true, res := fun ds r => ∃ d : D, ds = [d] ∧ r = .bl (isI d) }
theorem cl__law_wholeD {d : D} (h : plainK d = true) : Cal fd__law_whole [d] (.bl (isI d)) := ⟨rfl, ⟨d, rfl, h⟩, rfl, fun r ⟨d', e, q⟩ => by cases e; exact q, fun _ _ q => q⟩
theorem cl__law_whole {i : Int} : Cal fd__law_whole [.int i] (.bl true) := cl__law_wholeD (d := .int i) rfl
local macro_rules | `(tactic| walk_at "cal") => `(tactic| first | exact cl__law_whole | (apply cl__law_wholeD; first | assumption | skip))
theorem ok__law_whole (T : Txt K mg) : FnOk P w K mg base (L2.CX P w) 1 T.f__law_whole T.fd__law_whole ["found"] (SpD K fd__law_whole) := by
  refine fn_data (dvs := []) (kws := []) (N := N__law_whole) (.inr T.F__law_whole) sc__law_whole rfl (fun cdv A outer s H E hr tk => ?_)
  refine ⟨_, (pss_one (ps_ret (pe_and (pe_callB (g_isi (K := K) rfl) rfl T.b_isinstance boot_isinstance (pa_cons (pv 0) (pa_cons (pe_bltn (v := .ty "int") rfl T.b_int boot_int rfl) pa_nil))) (pe_one (pe_not (pe_callB (g_isi (K := K) rfl) rfl T.b_isinstance boot_isinstance (pa_cons (pv 0) (pa_cons (pe_bltn (v := .ty "bool") rfl T.b_bool boot_bool rfl) pa_nil)))))))), fun ds N' b hl hd acc => ?_⟩
  obtain ⟨d, rfl, hk⟩ := hd
  cases d with
  | non => exact w_ret (d := .bl false) (EvD.eq (by walk_at "ev") (by rfl)) ⟨by walk_at "b", _, rfl, rfl⟩
  | bl c => exact w_ret (d := .bl false) (EvD.eq (by walk_at "ev") (by rfl)) ⟨by walk_at "b", _, rfl, rfl⟩
  | int c => exact w_ret (d := .bl true) (EvD.eq (by walk_at "ev") (by rfl)) ⟨by walk_at "b", _, rfl, rfl⟩
  | str c => exact w_ret (d := .bl false) (EvD.eq (by walk_at "ev") (by rfl)) ⟨by walk_at "b", _, rfl, rfl⟩
  | lst c => exact w_ret (d := .bl false) (EvD.eq (by walk_at "ev") (by rfl)) ⟨by walk_at "b", _, rfl, rfl⟩
  | tup c => exact w_ret (d := .bl false) (EvD.eq (by walk_at "ev") (by rfl)) ⟨by walk_at "b", _, rfl, rfl⟩
  | dct c => exact w_ret (d := .bl false) (EvD.eq (by walk_at "ev") (by rfl)) ⟨by walk_at "b", _, rfl, rfl⟩
  | _ => cases hk

--OPT own 1
def fdS (n : Nat) : Fd := { n := 2, dom := fun ds => ∃ x, ds = [x, x] ∧ ∃ m, n = m + 1 ∧ sam m x = true, res := fun _ d => d = .bl true }
def fd__law_same : Fd := fdS 9
theorem cl__law_same {x : D} (h : sam 8 x = true) : Cal fd__law_same [x, x] (.bl true) := ⟨rfl, ⟨x, rfl, 8, rfl, h⟩, rfl, fun d h => h, fun _ _ q => q⟩
theorem cl_sameN {n : Nat} {x : D} (h : sam n x = true) : Cal (fdS (n + 1)) [x, x] (.bl true) := ⟨rfl, ⟨x, rfl, n, rfl, h⟩, rfl, fun d h => h, fun _ _ q => q⟩
theorem seq_str (s : Str) : D.eq (.str s) (.str s) = true := by
  simp [D.eq, D.py, PyData.eqv]
theorem seq_bl (s : Bool) : D.eq (.bl s) (.bl s) = true := by
  simp [D.eq, D.py, PyData.eqv]
theorem seq_non : D.eq .non .non = true := by
  simp [D.eq, D.py, PyData.eqv]
theorem sshp_bl (b : Bool) : D.shp 64 (.bl b) = true := rfl
theorem atI_at {xs : List D} {i : Nat} (hi : i < xs.length) : L2.atI xs (i : Int) = some (xs.getD i .non) := by
  refine atI_nn (by omega) ?_
  rw [Int.toNat_natCast, List.getD_eq_getElem?_getD, List.getElem?_eq_getElem hi]
  rfl
local macro_rules | `(tactic| walk_at "cal") => `(tactic| (apply cl__law_same <;> first | assumption | rfl | omega | skip))
theorem okA__law_same (T : Txt K mg) : ∀ n : Nat, FnOk P w K mg base (L2.CX P w) n T.f__law_same T.fd__law_same ["found", "due"] (SpD K (fdS n))
  | 0 => ⟨SpD.len (F := fdS 0) rfl, fun A outer s H args us vs Q E hr e0 hb r hsp => by
    obtain ⟨ds, N, b, a1, a2, a3, a4, ⟨x, e, m, h, _⟩, a6⟩ := hsp
    cases h⟩
  | n + 1 => by
    have ih := okA__law_same T n
    refine fn_data (dvs := []) (kws := []) (N := N__law_same) (.inr T.F__law_same) sc__law_same rfl (fun cdv A outer s H E hr tk => ?_)
    refine ⟨_, (pss_cons (ps_if (g_tru (K := K) rfl (pe_callB (g_isiT (K := K) rfl) rfl T.b_isinstance boot_isinstance (pa_cons (pv 1) (pa_cons (pe_tup (pa_cons (pe_bltn (v := .ty "list") rfl T.b_list boot_list rfl) (pa_cons (pe_bltn (v := .ty "tuple") rfl T.b_tuple boot_tuple rfl) pa_nil))) pa_nil))) (fun _ => rfl)) (pss_cons (ps_if (PW.pt (pw_or (pt_cmpR (g_ne (K := K) rfl hr) (pe_callB (g_isi (K := K) rfl) rfl T.b_isinstance boot_isinstance (pa_cons (pv 0) (pa_cons (pe_bltn (v := .ty "list") rfl T.b_list boot_list rfl) pa_nil))) (pe_callB (g_isi (K := K) rfl) rfl T.b_isinstance boot_isinstance (pa_cons (pv 1) (pa_cons (pe_bltn (v := .ty "list") rfl T.b_list boot_list rfl) pa_nil))) (nomark _)) (pw_or1 (pt_not (g_tru (K := K) rfl (pe_callB (g_isiT (K := K) rfl) rfl T.b_isinstance boot_isinstance (pa_cons (pv 0) (pa_cons (pe_tup (pa_cons (pe_bltn (v := .ty "list") rfl T.b_list boot_list rfl) (pa_cons (pe_bltn (v := .ty "tuple") rfl T.b_tuple boot_tuple rfl) pa_nil))) pa_nil))) (fun _ => rfl)))))) (pss_one (ps_ret pe_bl)) pss_nil)
      (pss_one (ps_ret (pe_and (pe_cmpR (g_eq (K := K) rfl hr) (pe_callB (g_len (K := K) rfl) rfl T.b_len boot_len (pa_cons (pv 0) pa_nil)) (pe_callB (g_len (K := K) rfl) rfl T.b_len boot_len (pa_cons (pv 1) pa_nil)) (nomark _)) (pe_one (pe_callB (g_all (K := K) rfl rfl) rfl T.b_all boot_all (pa_cons (pe_lc (own := [("k", 2)]) rfl sc__law_same.nd (pi_range1 rfl T.b_range (pa_cons (pe_callB (g_len (K := K) rfl) rfl T.b_len boot_len (pa_cons (pv 1) pa_nil)) pa_nil)) (blkOk_by (own := [("k", 2)]) (N := N__law_same) (sc := defScope s__law_same) (by decide +kernel)) (fun _ _ _ _ _ => (pg_name (i := 2) sc__law_same.nd rfl (Or.inl rfl))) (fun _ _ _ _ _ => pts_nil) (fun _ _ _ _ _ => (pe_cl (m := 0) ih (hr.mono (Nat.le_refl _)) rfl T.g__law_same T.k__law_same T.b__law_same pass_never (pa_cons (pe_ix (g_ix (K := K) rfl hr) (pv 0) (pv 2) (fun _ _ => rfl)) (pa_cons (pe_ix (g_ix (K := K) rfl hr) (pv 1) (pv 2) (fun _ _ => rfl)) pa_nil)) pk_nil))) pa_nil))))))) pss_nil)
      (pss_one (ps_ret (pe_and (pe_cmpR (g_eq (K := K) rfl hr) (pv 0) (pv 1) (nomark _)) (pe_one (pe_cmpR (g_eq (K := K) rfl hr) (pe_callB (g_isi (K := K) rfl) rfl T.b_isinstance boot_isinstance (pa_cons (pv 0) (pa_cons (pe_bltn (v := .ty "bool") rfl T.b_bool boot_bool rfl) pa_nil))) (pe_callB (g_isi (K := K) rfl) rfl T.b_isinstance boot_isinstance (pa_cons (pv 1) (pa_cons (pe_bltn (v := .ty "bool") rfl T.b_bool boot_bool rfl) pa_nil))) (nomark _))))))), fun ds N' b hl hd acc => ?_⟩
    obtain ⟨x, rfl, m, e, hx⟩ := hd
    cases e
    have e1 := seq_bl true
    have e2 := seq_bl false
    cases x with
    | non =>
      refine w_seq (w_if (c := false) (et_tru (ev_isi2 (by walk_at "ev") rfl (by walk_at "kb") (by walk_at "kb")) rfl) (fun h => nomatch h) (fun _ => w_next ?_))
      exact w_ret (d := .bl true) (EvD.eq (ev_andV (c := true) (EvD.eq (ev_op (p := false) (x := .non) (y := .non) (by walk_at "ev") (by walk_at "ev") (o_eq rfl rfl)) (by rw [seq_non])) fun _ => ev_op (p := false) (x := .bl false) (y := .bl false) (by walk_at "ev") (by walk_at "ev") (o_eq rfl rfl)) (by rw [e2]; rfl)) ⟨by walk_at "b", rfl⟩
    | bl c =>
      refine w_seq (w_if (c := false) (et_tru (ev_isi2 (by walk_at "ev") rfl (by walk_at "kb") (by walk_at "kb")) rfl) (fun h => nomatch h) (fun _ => w_next ?_))
      exact w_ret (d := .bl true) (EvD.eq (ev_andV (c := true) (EvD.eq (ev_op (p := false) (x := .bl c) (y := .bl c) (by walk_at "ev") (by walk_at "ev") (o_eq rfl rfl)) (by rw [seq_bl])) fun _ => ev_op (p := false) (x := .bl true) (y := .bl true) (by walk_at "ev") (by walk_at "ev") (o_eq rfl rfl)) (by rw [e1]; rfl)) ⟨by walk_at "b", rfl⟩
    | int c =>
      refine w_seq (w_if (c := false) (et_tru (ev_isi2 (by walk_at "ev") rfl (by walk_at "kb") (by walk_at "kb")) rfl) (fun h => nomatch h) (fun _ => w_next ?_))
      exact w_ret (d := .bl true) (EvD.eq (ev_andV (c := true) (EvD.eq (ev_op (p := false) (x := .int c) (y := .int c) (by walk_at "ev") (by walk_at "ev") o_eqI) (by rw [decide_eq_true rfl])) fun _ => ev_op (p := false) (x := .bl false) (y := .bl false) (by walk_at "ev") (by walk_at "ev") (o_eq rfl rfl)) (by rw [e2]; rfl)) ⟨by walk_at "b", rfl⟩
    | str c =>
      have hs : D.shp 64 (.str c) = true := by
        have q := hx
        unfold sam at q
        unfold D.shp
        exact q
      refine w_seq (w_if (c := false) (et_tru (ev_isi2 (by walk_at "ev") rfl (by walk_at "kb") (by walk_at "kb")) rfl) (fun h => nomatch h) (fun _ => w_next ?_))
      exact w_ret (d := .bl true) (EvD.eq (ev_andV (c := true) (EvD.eq (ev_op (p := false) (x := .str c) (y := .str c) (by walk_at "ev") (by walk_at "ev") (o_eq hs hs)) (by rw [seq_str])) fun _ => ev_op (p := false) (x := .bl false) (y := .bl false) (by walk_at "ev") (by walk_at "ev") (o_eq rfl rfl)) (by rw [e2]; rfl)) ⟨by walk_at "b", rfl⟩
    | tup xs =>
      cases n with
      | zero => simp [sam] at hx
      | succ n =>
      have hx' := hx
      simp only [sam, Bool.and_eq_true, decide_eq_true_eq] at hx'
      refine w_seq (w_if (c := true) (et_tru (ev_isi2 (by walk_at "ev") rfl (by walk_at "kb") (by walk_at "kb")) rfl) (fun _ => ?_) (fun h => nomatch h))
      refine w_seq (w_if (c := false) (EvT.eq (et_or (et_tst (ev_op (p := false) (x := .bl false) (y := .bl false) (by walk_at "ev") (by walk_at "ev") (o_ne rfl rfl))) fun _ => et_not (et_tru (ev_isi2 (by walk_at "ev") rfl (by walk_at "kb") (by walk_at "kb")) rfl)) (by rw [e2]; rfl)) (fun h => nomatch h) (fun _ => w_next ?_))
      refine w_ret (d := .bl true) (EvD.eq (ev_andV (by walk_at "ev") fun _ => ev_cb (ea_cons (ev_lc1 (p := false) (fun i => .bl true) (ei_r1 (p := false) (n := (xs.length : Int)) (by walk_at "ev") (by omega)) (by omega) fun i hi => ?_) ea_nil) (c_all (bs := (List.range xs.length).map fun _ => true) (by rw [List.map_map, Int.toNat_natCast]; rfl))) ?_) ⟨by walk_at "b", rfl⟩
      · have hi' : i < xs.length := by omega
        have at1 := atI_at hi'
        refine ⟨_, tg_name, fun b0 => ?_⟩
        exact ev_cal (es := [xs.getD i .non, xs.getD i .non]) (by walk_at "ev") (cl_sameN (samA_at hx'.1 hi')) rfl
      · rw [decide_eq_true rfl, List.all_map]
        simp
    | lst xs =>
      cases n with
      | zero => simp [sam] at hx
      | succ n =>
      have hx' := hx
      simp only [sam, Bool.and_eq_true, decide_eq_true_eq] at hx'
      refine w_seq (w_if (c := true) (et_tru (ev_isi2 (by walk_at "ev") rfl (by walk_at "kb") (by walk_at "kb")) rfl) (fun _ => ?_) (fun h => nomatch h))
      refine w_seq (w_if (c := false) (EvT.eq (et_or (et_tst (ev_op (p := false) (x := .bl true) (y := .bl true) (by walk_at "ev") (by walk_at "ev") (o_ne rfl rfl))) fun _ => et_not (et_tru (ev_isi2 (by walk_at "ev") rfl (by walk_at "kb") (by walk_at "kb")) rfl)) (by rw [e1]; rfl)) (fun h => nomatch h) (fun _ => w_next ?_))
      refine w_ret (d := .bl true) (EvD.eq (ev_andV (by walk_at "ev") fun _ => ev_cb (ea_cons (ev_lc1 (p := false) (fun i => .bl true) (ei_r1 (p := false) (n := (xs.length : Int)) (by walk_at "ev") (by omega)) (by omega) fun i hi => ?_) ea_nil) (c_all (bs := (List.range xs.length).map fun _ => true) (by rw [List.map_map, Int.toNat_natCast]; rfl))) ?_) ⟨by walk_at "b", rfl⟩
      · have hi' : i < xs.length := by omega
        have at1 := atI_at hi'
        refine ⟨_, tg_name, fun b0 => ?_⟩
        exact ev_cal (es := [xs.getD i .non, xs.getD i .non]) (by walk_at "ev") (cl_sameN (samA_at hx'.1 hi')) rfl
      · rw [decide_eq_true rfl, List.all_map]
        simp
    | _ => cases hx
theorem ok__law_same (T : Txt K mg) : FnOk P w K mg base (L2.CX P w) 9 T.f__law_same T.fd__law_same ["found", "due"] (SpD K fd__law_same) := okA__law_same T 9

def fd__law_units : Fd := { n := 1, dom := fun ds => ∃ g s u : Nat, ds = [shD g s u] ∧ ShOk g s u, res := fun ds d => ∃ g s u : Nat, ds = [shD g s u] ∧ d = .lst (rL (unitsV g s u)) }
theorem cl__law_units {g s u : Nat} (h : ShOk g s u) : Cal fd__law_units [shD g s u] (.lst (rL (unitsV g s u))) := ⟨rfl, ⟨g, s, u, rfl, h⟩, rfl, fun d ⟨g', s', u', e, q⟩ => by
  injection e with e2 e
  obtain ⟨rfl, rfl, rfl⟩ := shD_inj e2
  exact q, fun _ _ q => q⟩
theorem ok__law_units (T : Txt K mg) : FnOk P w K mg base (L2.CX P w) 2 T.f__law_units T.fd__law_units ["mould"] (SpD K fd__law_units) := by
  refine fn_data (dvs := []) (kws := []) (N := N__law_units) (.inr T.F__law_units) sc__law_units rfl (fun cdv A outer s H E hr tk => ?_)
  refine ⟨_, (pss_cons (ps_set (i := 1) sc__law_units.nd rfl (Or.inr rfl) (pe_op g_mul (pe_ix (g_ix (K := K) rfl hr) (pv 0) pe_int (fun _ _ => rfl)) (pe_ix (g_ix (K := K) rfl hr) (pv 0) pe_int (fun _ _ => rfl))))
      (pss_one (ps_ret (pe_lc (own := [("own", 2)]) rfl sc__law_units.nd (pi_range1 rfl T.b_range (pa_cons (pv 1) pa_nil)) (blkOk_by (own := [("own", 2)]) (N := N__law_units) (sc := defScope s__law_units) (by decide +kernel)) (fun _ _ _ _ _ => (pg_name (i := 2) sc__law_units.nd rfl (Or.inr rfl))) (fun _ _ _ _ _ => pts_nil) (fun _ _ _ _ _ => (pe_cl (m := 0) (ok__law_filled T) (hr.mono (by decide)) rfl T.g__law_filled T.k__law_filled T.b__law_filled pass_never (pa_cons (pv 0) (pa_cons (pe_lc (own := [("at", 3)]) rfl sc__law_units.nd (pi_range1 rfl T.b_range (pa_cons (pv 1) pa_nil)) (Sh.BlkOk.rel (blkOk_by (own := [("at", 3)]) (N := N__law_units) (sc := (scopeOf (valOf ((defBody s__law_units).getD 1 (.Pass ⟨0, 0, 0, 0⟩))))) (by decide +kernel))) (fun _ _ _ _ _ => (pg_name (i := 3) sc__law_units.nd rfl (Or.inl rfl))) (fun _ _ _ _ _ => pts_nil) (fun _ _ _ _ _ => (pe_callTy g_int rfl T.b_int boot_int (pa_cons (pe_cmpR (g_eq (K := K) rfl hr) (pv 3) (pv 2) (nomark _)) pa_nil)))) pa_nil)) pk_nil)))))), fun ds N' b hl hd acc => ?_⟩
  obtain ⟨g, s, u, rfl, h⟩ := hd
  obtain ⟨⟨g0, g1⟩, ⟨s0, s1⟩, u1⟩ := h.nat
  have hgs : g * s ≤ 16 := Nat.mul_le_mul g1 s1
  have gsi : (g : Int) * (s : Int) = ((g * s : Nat) : Int) := by push_cast; rfl
  refine w_seq (w_asg (d := .int ((g * s : Nat) : Int)) (EvD.eq (ev_op (x := .int (g : Int)) (y := .int (s : Int)) (ev_op (x := shD g s u) (y := .int 0) (ev_var rfl) ev_int (o_ixT rfl)) (ev_op (x := shD g s u) (y := .int 1) (ev_var rfl) ev_int (o_ixT rfl)) (o_mul (cmul_of 10 10 (by omega) (by omega)))) (by rw [gsi])) ?_)
  refine w_ret (d := .lst (rL (unitsV g s u))) (EvD.eq (ev_lc1 (fun k => .lst (iL (fillV g s u (unitD (g * s) k)))) (ei_r1 (p := true) (n := ((g * s : Nat) : Int)) (by walk_at "ev") (by omega)) (by omega) fun k hk => ?_) ?_) ⟨by walk_at "b", g, s, u, rfl, rfl⟩
  · have cf := cl__law_filled (data := unitD (g * s) k) h (by simp [unitD]) fun x hx => by have := unit_bd _ _ x hx; omega
    refine ⟨_, tg_name, fun b0 => ev_cal (es := [shD g s u, .lst (iL (unitD (g * s) k))]) (ea_cons (ev_var rfl) (ea_cons (EvD.eq (ev_lc1 (fun i => .int (if decide ((i : Int) = (k : Int)) = true then 1 else 0)) (ei_r1 (p := true) (n := ((g * s : Nat) : Int)) (by walk_at "ev") (by omega)) (by omega) fun i hi => ⟨_, tg_name, fun b1 => by walk_at "ev"⟩) ?_) ea_nil)) cf rfl⟩
    rw [Int.toNat_natCast]
    unfold unitD iL
    rw [List.map_map]
    congr 1
    apply List.map_congr_left
    intro i _
    show D.int _ = D.int _
    by_cases e : i = k
    · subst e; simp
    · have e2 : ¬ (i : Int) = (k : Int) := by omega
      simp [e, e2]
  · rw [Int.toNat_natCast]
    unfold unitsV rL
    rw [List.map_map]
    rfl

--OPT fdarg T.t_Recipe
def fd_Recipe_len (C : Addr) : Fd := { n := 1, dom := fun ds => ∃ (w : Int) (r f : List Int), ds = [recD C w r f], res := fun ds d => ∃ (w : Int) (r f : List Int), ds = [recD C w r f] ∧ d = .int r.length }
theorem cl_Recipe_len {C : Addr} {w : Int} {r f : List Int} : Cal (fd_Recipe_len C) [recD C w r f] (.int r.length) := ⟨rfl, ⟨w, r, f, rfl⟩, rfl, fun d ⟨w', r', f', e, q⟩ => by
  injection e with e
  injection e with _ e
  injection e with _ e
  injection e with e _
  injection e with _ e
  injection e with e
  rw [q, iL_inj e], fun _ _ q => q⟩
theorem ok_Recipe_len (T : Txt K mg) : FnOk P w K mg base (L2.CX P w) 1 T.f_Recipe_len T.fd_Recipe_len ["self"] (SpD K (fd_Recipe_len T.t_Recipe)) := by
  refine fn_data (dvs := []) (kws := []) (N := N_Recipe_len) (.inr T.F_Recipe_len) sc_Recipe_len rfl (fun cdv A outer s H E hr tk => ?_)
  refine ⟨_, (pss_one (ps_ret (pe_callB (g_len (K := K) rfl) rfl T.b_len boot_len (pa_cons (g_fld (K := K) rfl (pv 0)) pa_nil)))), fun ds N' b hl hd acc => ?_⟩
  obtain ⟨w, r, f, rfl⟩ := hd
  exact w_ret (d := .int r.length) (EvD.eq (ev_cb (ea_cons (ev_fld (fl := [(("wanted" : Str), .int w), (("reads" : Str), .lst (iL r)), (("factors" : Str), .lst (iL f))]) (ev_var rfl) T.in_Recipe.cl T.na_Recipe_reads rfl) ea_nil) c_lenL) (by rw [iL_len])) ⟨by walk_at "b", w, r, f, rfl, rfl⟩

--OPT fdarg T.t_Recipe
--OPT leno found=Recipe
def fd__law_right (C : Addr) : Fd := { n := 4, dom := fun ds => ∃ (n : Nat) (us : List (List Int)) (left r f : List Int) (w : Int), ds = [recD C w r f, .lst (rL us), .lst (iL left), .int w] ∧ (∀ v ∈ us, RowN n v) ∧ us.length ≤ 1000 ∧ left.length ≤ 1000 ∧ RightV n us left w r f, res := fun ds d => d = .bl true }
theorem cl__law_right {C : Addr} {n : Nat} {us : List (List Int)} {left r f : List Int} {w : Int} (h1 : ∀ v ∈ us, RowN n v) (h2 : us.length ≤ 1000) (h3 : left.length ≤ 1000) (h : RightV n us left w r f) : Cal (fd__law_right C) [recD C w r f, .lst (rL us), .lst (iL left), .int w] (.bl true) := ⟨rfl, ⟨n, us, left, r, f, w, rfl, h1, h2, h3, h⟩, rfl, fun d q => q, fun _ _ q => q⟩
theorem ok__law_right (T : Txt K mg) : FnOk P w K mg base (L2.CX P w) 10 T.f__law_right T.fd__law_right ["found", "units", "left", "wanted"] (SpD K (fd__law_right T.t_Recipe)) := by
  refine fn_data (dvs := []) (kws := []) (N := N__law_right) (.inr T.F__law_right) sc__law_right rfl (fun cdv A outer s H E hr tk => ?_)
  refine ⟨_, (pss_cons (ps_if (PW.pt (pw_or (pt_not (g_tru (K := K) rfl (pe_callB (g_isiE (K := K) rfl) rfl T.b_isinstance boot_isinstance (pa_cons (pv 0) (pa_cons (pe_glob (v := .ref T.t_Recipe) rfl T.g_Recipe rfl) pa_nil))) (fun _ => rfl))) (pw_or1 (pt_not (g_tru (K := K) rfl (pe_cl (m := 0) (ok__law_same T) (hr.mono (by decide)) rfl T.g__law_same T.k__law_same T.b__law_same (passD tk) (pa_cons (g_fld (K := K) rfl (pv 0)) (pa_cons (pv 3) pa_nil)) pk_nil) (fun _ => rfl)))))) (pss_one (ps_ret pe_bl)) pss_nil)
      (pss_cons (ps_if (PW.pt (pw_or (pt_not (g_tru (K := K) rfl (pe_callB (g_isi (K := K) rfl) rfl T.b_isinstance boot_isinstance (pa_cons (g_fld (K := K) rfl (pv 0)) (pa_cons (pe_bltn (v := .ty "list") rfl T.b_list boot_list rfl) pa_nil))) (fun _ => rfl))) (pw_or1 (pt_not (g_tru (K := K) rfl (pe_callB (g_isi (K := K) rfl) rfl T.b_isinstance boot_isinstance (pa_cons (g_fld (K := K) rfl (pv 0)) (pa_cons (pe_bltn (v := .ty "list") rfl T.b_list boot_list rfl) pa_nil))) (fun _ => rfl)))))) (pss_one (ps_ret pe_bl)) pss_nil)
      (pss_cons (ps_if (PW.pt (pw_or (pt_cmpR (g_ne (K := K) rfl hr) (pe_callB (g_len (K := K) rfl) rfl T.b_len boot_len (pa_cons (g_fld (K := K) rfl (pv 0)) pa_nil)) (pe_callB (g_len (K := K) rfl) rfl T.b_len boot_len (pa_cons (g_fld (K := K) rfl (pv 0)) pa_nil)) (nomark _)) (pw_or1 (pt_cmpR (g_ne (K := K) rfl hr) (pe_callB (g_lenO (K := K) rfl (ok_Recipe_len T) (hr.mono (by decide)) T.bb_Recipe_len T.me_Recipe_len.at_ T.me_Recipe_len.fn) rfl T.b_len boot_len (pa_cons (pv 0) pa_nil)) (pe_callB (g_len (K := K) rfl) rfl T.b_len boot_len (pa_cons (g_fld (K := K) rfl (pv 0)) pa_nil)) (nomark _))))) (pss_one (ps_ret pe_bl)) pss_nil)
      (pss_cons (ps_if (pt_not (g_tru (K := K) rfl (pe_callB (g_all (K := K) rfl rfl) rfl T.b_all boot_all (pa_cons (pe_lc (own := [("one", 6)]) rfl sc__law_right.nd (g_list (K := K) rfl (pe_op (g_add (K := K) rfl) (g_fld (K := K) rfl (pv 0)) (g_fld (K := K) rfl (pv 0)))) (blkOk_by (own := [("one", 6)]) (N := N__law_right) (sc := defScope s__law_right) (by decide +kernel)) (fun _ _ _ _ _ => (pg_name (i := 6) sc__law_right.nd rfl (Or.inl rfl))) (fun _ _ _ _ _ => pts_nil) (fun _ _ _ _ _ => (pe_cl (m := 0) (ok__law_whole T) (hr.mono (by decide)) rfl T.g__law_whole T.k__law_whole T.b__law_whole pass_never (pa_cons (pv 6) pa_nil) pk_nil))) pa_nil)) (fun _ => rfl))) (pss_one (ps_ret pe_bl)) pss_nil)
      (pss_cons (ps_if (PW.pt (pw_or (pt_not (g_tru (K := K) rfl (pe_callB (g_all (K := K) rfl rfl) rfl T.b_all boot_all (pa_cons (pe_lc (own := [("one", 6)]) rfl sc__law_right.nd (g_list (K := K) rfl (g_fld (K := K) rfl (pv 0))) (blkOk_by (own := [("one", 6)]) (N := N__law_right) (sc := defScope s__law_right) (by decide +kernel)) (fun _ _ _ _ _ => (pg_name (i := 6) sc__law_right.nd rfl (Or.inl rfl))) (fun _ _ _ _ _ => pts_nil) (fun _ _ _ _ _ => (pe_cmpR (g_in (K := K) rfl hr) (pv 6) (pv 2) (by rfl)))) pa_nil)) (fun _ => rfl))) (pw_or1 (pt_cmpR (g_ne (K := K) rfl hr) (pe_callB (g_sortedSet (w := w) rfl rfl) rfl T.b_sorted boot_sorted (pa_cons (pe_callTy (g_setOfI (K := K) (w := w) rfl rfl rfl) rfl T.b_set boot_set (pa_cons (g_fld (K := K) rfl (pv 0)) pa_nil)) pa_nil)) (g_fld (K := K) rfl (pv 0)) (nomark _))))) (pss_one (ps_ret pe_bl)) pss_nil)
      (pss_cons (ps_if (pt_not (g_tru (K := K) rfl (pe_callB (g_all (K := K) rfl rfl) rfl T.b_all boot_all (pa_cons (pe_lc (own := [("one", 6)]) rfl sc__law_right.nd (g_list (K := K) rfl (g_fld (K := K) rfl (pv 0))) (blkOk_by (own := [("one", 6)]) (N := N__law_right) (sc := defScope s__law_right) (by decide +kernel)) (fun _ _ _ _ _ => (pg_name (i := 6) sc__law_right.nd rfl (Or.inl rfl))) (fun _ _ _ _ _ => pts_nil) (fun _ _ _ _ _ => (pe_chain g_le g_le pe_int (pv 6) pe_int))) pa_nil)) (fun _ => rfl))) (pss_one (ps_ret pe_bl)) pss_nil)
      (pss_cons (ps_for (passes_of rfl) rfl (g_list (K := K) rfl (pv 1)) (pg_name (i := 4) sc__law_right.nd rfl (Or.inr rfl)) (pss_cons (ps_set (i := 5) sc__law_right.nd rfl (Or.inl rfl) (pe_callB (g_sum (K := K) rfl rfl) rfl T.b_sum boot_sum (pa_cons (pe_lc (own := [("place", 7), ("factor", 8)]) rfl sc__law_right.nd (g_zip (K := K) rfl rfl T.b_zip (pa_cons (g_fld (K := K) rfl (pv 0)) (pa_cons (g_fld (K := K) rfl (pv 0)) pa_nil))) (blkOk_by (own := [("place", 7), ("factor", 8)]) (N := N__law_right) (sc := defScope s__law_right) (by decide +kernel)) (fun _ _ _ _ _ => (g_tup (K := K) (n := 2) rfl rfl (pgs_cons (pg_name (i := 7) sc__law_right.nd rfl (Or.inl rfl)) (pgs_cons (pg_name (i := 8) sc__law_right.nd rfl (Or.inl rfl)) pgs_nil)))) (fun _ _ _ _ _ => pts_nil) (fun _ _ _ _ _ => (pe_op g_mul (pe_ix (g_ix (K := K) rfl hr) (pv 4) (pv 7) (fun _ _ => rfl)) (pv 8)))) pa_nil)))
      (pss_one (ps_if (pt_cmpR (g_ne (K := K) rfl hr) (pe_op g_mod (pe_op g_sub (pv 5) (pe_ix (g_ix (K := K) rfl hr) (pv 4) (pv 3) (fun _ _ => rfl))) pe_int) pe_int (nomark _)) (pss_one (ps_ret pe_bl)) pss_nil))))
      (pss_one (ps_ret pe_bl))))))))), fun ds N' b hl hd acc => ?_⟩
  obtain ⟨n, us, left, r, f, w, rfl, hus, hul, hll, h⟩ := hd
  obtain ⟨hlen, hfew, hup, hin, hbd, hfb, hwb, hrt⟩ := h
  have fl : ∀ {G : Gx} {b : Nat} {p : Bool} {ds : List Sd} {i : Nat} {w : Int} {r f : List Int}, G.K = K → ds[i]? = some (.dat (recD T.t_Recipe w r f)) → EvD G p b b (tFld K (tVar i) "wanted") ds (.int w) ∧ EvD G p b b (tFld K (tVar i) "reads") ds (.lst (iL r)) ∧ EvD G p b b (tFld K (tVar i) "factors") ds (.lst (iL f)) := fun e h => by
    subst e
    exact ⟨ev_fld (ev_var h) T.in_Recipe.cl T.na_Recipe_wanted rfl, ev_fld (ev_var h) T.in_Recipe.cl T.na_Recipe_reads rfl, ev_fld (ev_var h) T.in_Recipe.cl T.na_Recipe_factors rfl⟩
  have hfl : f.length ≤ 60 := by omega
  refine w_seq (w_if (c := false) (EvT.eq (et_or (c := false) (EvT.eq (et_not (et_tru (d := .bl true) (ev_cb (ea_cons (ev_var rfl) (by walk_at "ev")) (c_isiI T.in_Recipe T.y_Recipe_Recipe)) rfl)) rfl) fun _ => et_not (et_tru (d := .bl true) (ev_cal (es := [.int w, .int w]) (ea_cons (fl rfl rfl).1 (ea_cons (ev_var rfl) ea_nil)) (cl__law_same rfl) rfl) rfl)) rfl) (fun z => nomatch z) (fun _ => w_next ?_))
  refine w_seq (w_if (c := false) (EvT.eq (et_or (c := false) (EvT.eq (et_not (et_tru (d := .bl true) (ev_cb (ea_cons (fl rfl rfl).2.1 (by walk_at "ev")) (c_isi (s := "list") rfl (by walk_at "kb"))) rfl)) rfl) fun _ => et_not (et_tru (d := .bl true) (ev_cb (ea_cons (fl rfl rfl).2.2 (by walk_at "ev")) (c_isi (s := "list") rfl (by walk_at "kb"))) rfl)) rfl) (fun z => nomatch z) (fun _ => w_next ?_))
  refine w_seq (w_if (c := false) (EvT.eq (et_or (c := false) (EvT.eq (et_tst (ev_op (ev_cb (ea_cons (fl rfl rfl).2.1 ea_nil) c_lenL) (ev_cb (ea_cons (fl rfl rfl).2.2 ea_nil) c_lenL) o_neI)) (by rw [iL_len, iL_len, hlen, decide_eq_true rfl]; rfl)) fun _ => EvT.eq (et_tst (ev_op (ev_cb (ea_cons (ev_var rfl) ea_nil) (c_lenO cl_Recipe_len (by omega))) (ev_cb (ea_cons (fl rfl rfl).2.1 ea_nil) c_lenL) o_neI)) (by rw [iL_len, decide_eq_true rfl]; rfl)) rfl) (fun z => nomatch z) (fun _ => w_next ?_))
  refine w_seq (w_if (c := false) (EvT.eq (et_not (et_tru (d := .bl true) (EvD.eq (ev_cb (ea_cons (ev_lc1 (p := false) (fun _ => .bl true) (ei_list (xs := iL (r ++ f)) (EvD.eq (ev_op (fl rfl rfl).2.1 (fl rfl rfl).2.2 (o_catL (xs := iL r) (ys := iL f) (by rw [iL_len, iL_len]; omega))) (by rw [iL_app]))) (by rw [iL_len, List.length_append]; omega) fun i hi => ?_) ea_nil) (c_all (bs := (List.range (iL (r ++ f)).length).map fun _ => true) (by rw [List.map_map]; rfl))) (by rw [List.all_map]; simp)) rfl)) rfl) (fun z => nomatch z) (fun _ => w_next ?_))
  · rw [getD_iL (by rw [iL_len] at hi; exact hi)]
    exact ⟨_, tg_name, fun b0 => ev_cal (es := [.int ((r ++ f).getD i 0)]) (by walk_at "ev") cl__law_whole rfl⟩
  refine w_seq (w_if (c := false) (EvT.eq (et_or (c := false) (EvT.eq (et_not (et_tru (d := .bl true) (EvD.eq (ev_cb (ea_cons (ev_lc1 (p := false) (fun _ => .bl true) (ei_list (xs := iL r) (fl rfl rfl).2.1) (by rw [iL_len]; omega) fun i hi => ?_) ea_nil) (c_all (bs := (List.range (iL r).length).map fun _ => true) (by rw [List.map_map]; rfl))) (by rw [List.all_map]; simp)) rfl)) rfl) fun _ => ets_tst (R1 := fun c => c = false) (EvS.imp (evs_op (EvO.evs (evs_sortSet (p := false) (ns := r) (ea_cons (fl rfl rfl).2.1 ea_nil) (by omega))) (R2' := fun _ y => y = .lst (iL r)) (fun _ _ => (fl rfl rfl).2.1) fun x y ex ey => ?_) fun d e => e)) rfl) (fun z => nomatch z) (fun _ => w_next ?_))
  · rw [iL_len] at hi
    rw [getD_iL hi]
    have hx : r.getD i 0 ∈ left := hin _ (by rw [List.getD_eq_getElem?_getD, List.getElem?_eq_getElem hi]; exact List.getElem_mem hi)
    exact ⟨_, tg_name, fun b0 => EvD.eq (ev_op (x := .int (r.getD i 0)) (y := .lst (iL left)) (ev_var rfl) (ev_var rfl) o_inI) (by rw [decide_eq_true hx])⟩
  · obtain ⟨xs, e1, ys, e2, e3, e4⟩ := ex
    subst e1 e2 ey
    have : ys = r := sorted_ext e3 hup e4
    subst this
    exact (o_ne (shp_lst _) (shp_lst _)).to ⟨false, by rw [eq_iL]; rfl, rfl⟩
  refine w_seq (w_if (c := false) (EvT.eq (et_not (et_tru (d := .bl true) (EvD.eq (ev_cb (ea_cons (ev_lc1 (p := false) (fun _ => .bl true) (ei_list (xs := iL f) (fl rfl rfl).2.2) (by rw [iL_len]; omega) fun i hi => ?_) ea_nil) (c_all (bs := (List.range (iL f).length).map fun _ => true) (by rw [List.map_map]; rfl))) (by rw [List.all_map]; simp)) rfl)) rfl) (fun z => nomatch z) (fun _ => w_next ?_))
  · rw [iL_len] at hi
    rw [getD_iL hi]
    have hx := hfb (f.getD i 0) (by rw [List.getD_eq_getElem?_getD, List.getElem?_eq_getElem hi]; exact List.getElem_mem hi)
    exact ⟨_, tg_name, fun b0 => EvD.eq (by walk_at "ev") (by rw [decide_eq_true hx.1, decide_eq_true hx.2]; rfl)⟩
  refine w_seq (w_for allV (fun i ds b' => ∃ s4 s5 s6 s7 s8 : Sd, ds = [.dat (recD T.t_Recipe w r f), .dat (.lst (rL us)), .dat (.lst (iL left)), .dat (.int w), s4, s5, s6, s7, s8] ∧ b' = (fd__law_right T.t_Recipe).cost [recD T.t_Recipe w r f, .lst (rL us), .lst (iL left), .int w] + b) (ei_list (by walk_at "ev")) ⟨_, _, _, _, _, rfl, by rfl⟩ ?_ ?_)
  · rintro i ds' b' hi ⟨s4, s5, s6, s7, s8, rfl, rfl⟩
    rw [rL_len] at hi
    rw [getD_rL hi]
    have hv : RowN n (us.getD i []) := by rw [getD_row hi]; exact hus _ (List.getElem_mem hi)
    have hrv : (comeV r f (us.getD i []) - (us.getD i []).getD w.toNat 0) % 97 = 0 := by
      have := hrt us[i] (List.getElem_mem hi)
      rw [getD_row hi]; exact this
    generalize us.getD i [] = v at *
    refine ⟨_, tg_name, ?_⟩
    refine w_seq (w_asg (d := .int (comeV r f v)) (ev_cb (ea_cons (ev_lc1 (p := true) (fun k => .int (v.getD (r.getD k 0).toNat 0 * f.getD k 0)) (ei_zip (xs := iL r) (ys := iL f) (ea_cons (fl rfl rfl).2.1 (ea_cons (fl rfl rfl).2.2 ea_nil))) (by rw [iL_len, iL_len]; omega) fun k hk => ?_) ea_nil) (c_sumL (ns := (List.range (min (iL r).length (iL f).length)).map fun k => v.getD (r.getD k 0).toNat 0 * f.getD k 0) (by rw [List.map_map]; rfl) |>.as (by rw [iL_len, iL_len, hlen, Nat.min_self]; unfold comeV; rw [hlen]))) ?_)
    · rw [iL_len, iL_len] at hk
      rw [getD_iL (by omega), getD_iL (by omega)]
      have hb1 := hbd (r.getD k 0) (by rw [List.getD_eq_getElem?_getD, List.getElem?_eq_getElem (by omega)]; exact List.getElem_mem _)
      have hb2 := hfb (f.getD k 0) (by rw [List.getD_eq_getElem?_getD, List.getElem?_eq_getElem (by omega)]; exact List.getElem_mem _)
      generalize r.getD k 0 = x at *
      generalize f.getD k 0 = y at *
      obtain ⟨p, rfl⟩ := Int.eq_ofNat_of_zero_le hb1.1
      have hat : L2.atI (iL v) (p : Int) = some (.int (v.getD p 0)) := atI_iL (by rw [hv.1]; omega)
      have hp := hv.at p
      rw [Int.toNat_natCast]
      have hm : CMulW (v.getD p 0) y := cmul_of 10 10 (by omega) (by omega)
      exact ⟨_, by walk_at "tg", fun b0 => by walk_at "ev"⟩
    · obtain ⟨p, rfl⟩ := Int.eq_ofNat_of_zero_le hwb.1
      have hat : L2.atI (iL v) (p : Int) = some (.int (v.getD p 0)) := atI_iL (by rw [hv.1]; omega)
      rw [Int.toNat_natCast] at hrv
      refine w_if (c := !decide ((comeV r f v - v.getD p 0) % 97 = 0)) (by walk_at "ev") (fun z => ?_) (fun _ => w_next ⟨_, _, _, _, _, rfl, rfl⟩)
      rw [hrv] at z
      cases z
  · rintro ds' b' ⟨s4, s5, s6, s7, s8, rfl, rfl⟩
    exact w_ret (d := .bl true) (by walk_at "ev") ⟨by walk_at "b", rfl⟩

--OPT fdarg T.t_NoShape T.t_NoPlace T.t_Hidden T.t_Recipe
def hidX (CH : Addr) (w : Nat) (gh : List Int) : D := .exc CH [(("ghost" : Str), .lst (iL gh)), (("place" : Str), .int w)]
def fd__law_recipe (CS CP CH CR : Addr) : Fd := { n := 3, dom := fun ds => ∃ (l : List Int) (w g s u : Nat), ds = [.lst (iL l), .int w, shD g s u] ∧ ShOk g s u ∧ l.length ≤ 1000 ∧ (∀ p ∈ l, 0 ≤ p ∧ p < (many g s u : Nat)) ∧ w < many g s u, res := fun ds d => ∃ (l : List Int) (w g s u : Nat), ds = [.lst (iL l), .int w, shD g s u] ∧ ((∃ r, recOf CR l w g s u r ∧ d = .tup [r, .non]) ∨ ((w : Int) ∉ l ∧ recRow g s u l w = none ∧ ∃ gh, ghoRow g s u l w = some gh ∧ d = .tup [.non, hidX CH w gh])) }
theorem cas__law_recipe {CS CP CH CR : Addr} {l : List Int} {w g s u : Nat} (h : ShOk g s u) (hl : l.length ≤ 1000) (hb : ∀ p ∈ l, 0 ≤ p ∧ p < (many g s u : Nat)) (hw : w < many g s u) : Cas (fd__law_recipe CS CP CH CR) [.lst (iL l), .int w, shD g s u] 0 (fun d => (∃ r, recOf CR l w g s u r ∧ d = .tup [r, .non]) ∨ ((w : Int) ∉ l ∧ recRow g s u l w = none ∧ ∃ gh, ghoRow g s u l w = some gh ∧ d = .tup [.non, hidX CH w gh])) := ⟨rfl, ⟨l, w, g, s, u, rfl, h, hl, hb, hw⟩, Nat.le_refl _, fun d ⟨l', w', g', s', u', e, q⟩ => by
  injection e with e1 e
  injection e with e2 e
  injection e with e3 e
  obtain ⟨rfl, rfl, rfl⟩ := shD_inj e3
  injection e1 with e1
  injection e2 with e2
  rw [iL_inj e1, show w = w' by omega]
  exact q, fun _ _ q => q⟩
theorem ok__law_recipe (T : Txt K mg) : FnOk P w K mg base (L2.CX P w) 13 T.f__law_recipe T.fd__law_recipe ["left", "wanted", "mould"] (SpD K (fd__law_recipe T.t_NoShape T.t_NoPlace T.t_Hidden T.t_Recipe)) := by
  refine fn_data (dvs := []) (kws := []) (N := N__law_recipe) (.inr T.F__law_recipe) sc__law_recipe rfl (fun cdv A outer s H E hr tk => ?_)
  refine ⟨_, (pss_cons (ps_set (i := 3) sc__law_recipe.nd rfl (Or.inl rfl) pe_non)
      (pss_cons (ps_set (i := 4) sc__law_recipe.nd rfl (Or.inl rfl) pe_non)
      (pss_cons (g_tryK (K := K) rfl (i := 5) (c := .ref T.t_Hidden) rfl rfl rfl sc__law_recipe.nd rfl rfl ⟨by rfl, by decide, .inl T.g_Hidden⟩ tk (fun W pn xe tk _ => (pss_one (ps_set (i := 3) sc__law_recipe.nd rfl (Or.inl rfl) (pe_cl (m := 1) (ok_recipe T) (hr.mono (by decide)) rfl T.g_recipe T.k_recipe T.b_recipe_2_shape (passD tk) (pa_cons (pv 0) (pa_cons (pv 1) pa_nil)) (pk_cons (pv 2) pk_nil)))))
      (fun a pn => (pss_one (ps_set (i := 4) sc__law_recipe.nd rfl (Or.inl rfl) (pv 5)))))
      (pss_one (ps_ret (pe_tup (pa_cons (pv 3) (pa_cons (pv 4) pa_nil)))))))), fun ds N' b hl hd acc => ?_⟩
  obtain ⟨l, w, g, s, u, rfl, h, hl, hb, hw⟩ := hd
  have res : ∀ {d : D}, recOf T.t_Recipe l w g s u d → (fd__law_recipe T.t_NoShape T.t_NoPlace T.t_Hidden T.t_Recipe).res [.lst (iL l), .int w, shD g s u] (.tup [d, .non]) := fun {d} q => ⟨l, w, g, s, u, rfl, .inl ⟨d, q, rfl⟩⟩
  refine w_seq (w_asg (by walk_at "ev") (w_seq (w_asg (by walk_at "ev") (w_seq ?_))))
  refine w_mid (fun ds b' => ∃ (x y : D) (s5 : Sd), ds = [.dat (.lst (iL l)), .dat (.int w), .dat (shD g s u), .dat x, .dat y, s5] ∧ b' = (fd__law_recipe T.t_NoShape T.t_NoPlace T.t_Hidden T.t_Recipe).cost [.lst (iL l), .int w, shD g s u] + b ∧ (fd__law_recipe T.t_NoShape T.t_NoPlace T.t_Hidden T.t_Recipe).res [.lst (iL l), .int w, shD g s u] (.tup [x, y])) ?_ ?_
  · refine w_tryK (fun C fs ds' b' => hidE T.t_Hidden l w g s u C fs ∧ ds' = [.dat (.lst (iL l)), .dat (.int w), .dat (shD g s u), .dat .non, .dat .non, .un] ∧ b' = (fd__law_recipe T.t_NoShape T.t_NoPlace T.t_Hidden T.t_Recipe).cost [.lst (iL l), .int w, shD g s u] + b) ?_ (by rfl) (fun W H1 M1 acc1 => ?_) ?_
    · intro s hs
      have q := List.all_eq_true.mp (show (List.all _ fun s => !isOwn s) = true from rfl) s hs
      simpa using q
    · refine ws_asg (b' := (fd__law_recipe T.t_NoShape T.t_NoPlace T.t_Hidden T.t_Recipe).cost [.lst (iL l), .int w, shD g s u] + b) (evs_calXK (F := fd_recipe T.t_NoShape T.t_NoPlace T.t_Hidden T.t_Recipe) (es := [.lst (iL l), .int w]) (fs := [shD g s u]) (by walk_at "ev") (by walk_at "ev") rfl rfl rfl (recipe_dom hl) (Nat.le_of_eq (Nat.zero_add _)) acc1 (fun _ => rfl) fun C x q => ⟨recipe_exn h hb hw q, rfl, rfl⟩) fun d q => ?_
      exact ⟨d, _, _, rfl, rfl, res (recipe_res q)⟩
    · rintro C fs ds' b' ⟨⟨h1, h2, rfl, gh, h3, rfl⟩, rfl, rfl⟩
      refine ⟨T.m_Hidden_Hidden, ?_⟩
      exact w_asg (d := hidX T.t_Hidden w gh) (by walk_at "ev") ⟨_, _, _, rfl, rfl, l, w, g, s, u, rfl, .inr ⟨h1, h2, gh, h3, rfl⟩⟩
  · rintro ds' b' ⟨x, y, s5, rfl, rfl, q⟩
    exact w_ret (d := .tup [x, y]) (by walk_at "ev") ⟨by walk_at "b", q⟩

--OPT fdarg T.t_Recipe
def aloneF (rest : List Int) (w z : Int) : List Int := if w = z then List.replicate rest.length 1 else List.replicate (rest.length - 1) 96 ++ [1]
def fd__law_alone (C : Addr) : Fd := { n := 3, dom := fun ds => ∃ (rest : List Int) (w z : Int), ds = [.lst (iL rest), .int w, .int z] ∧ 1 ≤ rest.length ∧ rest.length ≤ 1000, res := fun ds d => ∃ (rest : List Int) (w z : Int), ds = [.lst (iL rest), .int w, .int z] ∧ d = recD C w rest (aloneF rest w z) }
theorem cl__law_alone {C : Addr} {rest : List Int} {w z : Int} (h : 1 ≤ rest.length) (h2 : rest.length ≤ 1000) : Cal (fd__law_alone C) [.lst (iL rest), .int w, .int z] (recD C w rest (aloneF rest w z)) := ⟨rfl, ⟨rest, w, z, rfl, h, h2⟩, rfl, fun d ⟨r', w', z', e, q⟩ => by
  injection e with e1 e
  injection e with e2 e
  injection e with e3 e
  injection e1 with e1
  injection e2 with e2
  injection e3 with e3
  rw [q, iL_inj e1, e2, e3], fun _ _ q => q⟩
theorem rep_ones (n : Nat) (k : Int) : (List.replicate ((n : Int)).toNat [D.int k]).flatten = iL (List.replicate n k) := by
  rw [Int.toNat_natCast]
  unfold iL
  induction n with
  | zero => rfl
  | succ n ih => rw [List.replicate_succ, List.replicate_succ, List.flatten_cons, ih, List.map_cons]; rfl
theorem ok__law_alone (T : Txt K mg) : FnOk P w K mg base (L2.CX P w) 3 T.f__law_alone T.fd__law_alone ["rest", "wanted", "spot"] (SpD K (fd__law_alone T.t_Recipe)) := by
  refine fn_data (dvs := []) (kws := []) (N := N__law_alone) (.inr T.F__law_alone) sc__law_alone rfl (fun cdv A outer s H E hr tk => ?_)
  refine ⟨_, (pss_cons (ps_set (i := 3) sc__law_alone.nd rfl (Or.inl rfl) (pe_op g_mul (pe_lst (pa_cons pe_int pa_nil)) (pe_callB (g_len (K := K) rfl) rfl T.b_len boot_len (pa_cons (pv 0) pa_nil))))
      (pss_cons (ps_if (pt_cmpR (g_ne (K := K) rfl hr) (pv 1) (pv 2) (nomark _)) (pss_one (ps_set (i := 3) sc__law_alone.nd rfl (Or.inl rfl) (pe_op (g_add (K := K) rfl) (pe_op g_mul (pe_lst (pa_cons pe_int pa_nil)) (pe_op g_sub (pe_callB (g_len (K := K) rfl) rfl T.b_len boot_len (pa_cons (pv 0) pa_nil)) pe_int)) (pe_lst (pa_cons pe_int pa_nil))))) pss_nil)
      (pss_one (ps_ret (pe_mk_ (m := 0) T.mk_Recipe (ok_Recipe_init T) (hr.mono (by decide)) rfl T.g_Recipe T.b_Recipe_init (passD tk) (pa_cons (pv 1) (pa_cons (pv 0) (pa_cons (pv 3) pa_nil))) pk_nil))))), fun ds N' b hl hd acc => ?_⟩
  obtain ⟨rest, w, z, rfl, h1, h2⟩ := hd
  refine w_seq (w_asg (d := .lst (iL (List.replicate rest.length 1))) (EvD.eq (ev_op (x := .lst [.int 1]) (y := .int (rest.length : Int)) (by walk_at "ev") (EvD.eq (ev_cb (ea_cons (ev_var rfl) ea_nil) c_lenL) (by rw [iL_len])) (o_rep (by omega) (by show 1 * _ ≤ _; rw [Int.toNat_natCast]; omega))) (by rw [rep_ones])) ?_)
  refine w_seq (w_mid (fun ds b' => ∃ r : List Int, ds = [.dat (.lst (iL rest)), .dat (.int w), .dat (.int z), .dat (.lst (iL (aloneF rest w z)))] ∧ b' = (fd__law_alone T.t_Recipe).cost [.lst (iL rest), .int w, .int z] + b) ?_ ?_)
  · refine w_if (c := !decide (w = z)) (by walk_at "ev") (fun hc => ?_) (fun hc => w_next ⟨[], ?_, rfl⟩)
    · have hc : w ≠ z := by simpa using hc
      have em : ((rest.length : Int) - 1) = ((rest.length - 1 : Nat) : Int) := by omega
      refine w_asg (d := .lst (iL (aloneF rest w z))) (EvD.eq (ev_op (x := .lst (iL (List.replicate (rest.length - 1) 96))) (y := .lst [.int 1]) (EvD.eq (ev_op (x := .lst [.int 96]) (y := .int ((rest.length - 1 : Nat) : Int)) (by walk_at "ev") (EvD.eq (ev_op (x := .int (rest.length : Int)) (y := .int 1) (EvD.eq (ev_cb (ea_cons (ev_var rfl) ea_nil) c_lenL) (by rw [iL_len])) ev_int o_sub) (by rw [em])) (o_rep (by omega) (by show 1 * _ ≤ _; rw [Int.toNat_natCast]; omega))) (by rw [rep_ones])) (by walk_at "ev") (o_catL (by rw [iL_len, List.length_replicate]; show _ + 1 ≤ _; omega))) ?_) ⟨[], rfl, rfl⟩
      unfold aloneF
      rw [if_neg hc, iL_app]; rfl
    · have hc : w = z := by simpa using hc
      unfold aloneF
      rw [if_pos hc]; rfl
  · rintro ds' b' ⟨_, rfl, rfl⟩
    exact ws_ret (EvW.evs (ew_Recipe (w := w) (r := rest) (f := aloneF rest w z) (by walk_at "ev"))) fun d e => ⟨by walk_at "b", rest, w, z, rfl, e⟩

--OPT fdarg T.t_Recipe
def fd_Recipe_eq (C : Addr) : Fd := { n := 2, dom := fun ds => ∃ (w w' : Int) (r r' f f' : List Int), ds = [recD C w r f, recD C w' r' f'], res := fun ds d => ∃ (w w' : Int) (r r' f f' : List Int), ds = [recD C w r f, recD C w' r' f'] ∧ d = .bl (decide (w = w') && (decide (r = r') && decide (f = f'))) }
theorem recD_inj {C C' : Addr} {w w' : Int} {r r' f f' : List Int} (h : recD C w r f = recD C' w' r' f') : C = C' ∧ w = w' ∧ r = r' ∧ f = f' := by
  unfold recD at h
  injection h with h0 h
  injection h with h1 h
  injection h with h2 h
  injection h with h3 h
  injection h1 with _ h1
  injection h2 with _ h2
  injection h3 with _ h3
  injection h1 with h1
  injection h2 with h2
  injection h3 with h3
  exact ⟨h0, h1, iL_inj h2, iL_inj h3⟩
theorem cl_Recipe_eq {C : Addr} {w w' : Int} {r r' f f' : List Int} : Cal (fd_Recipe_eq C) [recD C w r f, recD C w' r' f'] (.bl (decide (w = w') && (decide (r = r') && decide (f = f')))) := ⟨rfl, ⟨w, w', r, r', f, f', rfl⟩, rfl, fun d ⟨_, _, _, _, _, _, e, q⟩ => by
  injection e with e1 e
  injection e with e2 e
  obtain ⟨_, rfl, rfl, rfl⟩ := recD_inj e1
  obtain ⟨_, rfl, rfl, rfl⟩ := recD_inj e2
  exact q, fun _ _ q => q⟩
theorem ok_Recipe_eq (T : Txt K mg) : FnOk P w K mg base (L2.CX P w) 1 T.f_Recipe_eq T.fd_Recipe_eq ["self", "other"] (SpD K (fd_Recipe_eq T.t_Recipe)) := by
  refine fn_data (dvs := []) (kws := []) (N := N_Recipe_eq) (.inr T.F_Recipe_eq) sc_Recipe_eq rfl (fun cdv A outer s H E hr tk => ?_)
  refine ⟨_, (pss_cons (ps_if (pt_not (g_tru (K := K) rfl (pe_callB (g_isiE (K := K) rfl) rfl T.b_isinstance boot_isinstance (pa_cons (pv 1) (pa_cons (pe_glob (v := .ref T.t_Recipe) rfl T.g_Recipe rfl) pa_nil))) (fun _ => rfl))) (pss_one (ps_ret pe_bl)) pss_nil)
      (pss_one (ps_ret (pe_and (pe_cmpR (g_eq (K := K) rfl hr) (g_fld (K := K) rfl (pv 0)) (g_fld (K := K) rfl (pv 1)) (nomark _)) (pe_and (pe_cmpR (g_eq (K := K) rfl hr) (g_fld (K := K) rfl (pv 0)) (g_fld (K := K) rfl (pv 1)) (nomark _)) (pe_one (pe_cmpR (g_eq (K := K) rfl hr) (g_fld (K := K) rfl (pv 0)) (g_fld (K := K) rfl (pv 1)) (nomark _)))))))), fun ds N' b hl hd acc => ?_⟩
  obtain ⟨w, w', r, r', f, f', rfl⟩ := hd
  refine w_seq (w_if (c := false) (EvT.eq (et_not (et_tru (d := .bl true) (ev_cb (ea_cons (ev_var rfl) (by walk_at "ev")) (c_isiI T.in_Recipe T.y_Recipe_Recipe)) rfl)) rfl) (fun z => nomatch z) (fun _ => w_next ?_))
  have fw : ∀ {G : Gx} {b : Nat} {p : Bool} {ds : List Sd} {i : Nat} {w : Int} {r f : List Int}, G.K = K → ds[i]? = some (.dat (recD T.t_Recipe w r f)) → EvD G p b b (tFld K (tVar i) "wanted") ds (.int w) := fun e h => by subst e; exact ev_fld (ev_var h) T.in_Recipe.cl T.na_Recipe_wanted rfl
  have fr : ∀ {G : Gx} {b : Nat} {p : Bool} {ds : List Sd} {i : Nat} {w : Int} {r f : List Int}, G.K = K → ds[i]? = some (.dat (recD T.t_Recipe w r f)) → EvD G p b b (tFld K (tVar i) "reads") ds (.lst (iL r)) := fun e h => by subst e; exact ev_fld (ev_var h) T.in_Recipe.cl T.na_Recipe_reads rfl
  have ff : ∀ {G : Gx} {b : Nat} {p : Bool} {ds : List Sd} {i : Nat} {w : Int} {r f : List Int}, G.K = K → ds[i]? = some (.dat (recD T.t_Recipe w r f)) → EvD G p b b (tFld K (tVar i) "factors") ds (.lst (iL f)) := fun e h => by subst e; exact ev_fld (ev_var h) T.in_Recipe.cl T.na_Recipe_factors rfl
  refine w_ret (d := .bl (decide (w = w') && (decide (r = r') && decide (f = f')))) (EvD.eq (ev_andV (c := decide (w = w')) (ev_op (fw rfl rfl) (fw rfl rfl) o_eqI) fun _ => ev_andV (c := decide (r = r')) (EvD.eq (ev_op (fr rfl rfl) (fr rfl rfl) (o_eq (shp_lst _) (shp_lst _))) (by rw [eq_iLm])) fun _ => EvD.eq (ev_op (ff rfl rfl) (ff rfl rfl) (o_eq (shp_lst _) (shp_lst _))) (by rw [eq_iLm])) ?_) ⟨by walk_at "b", w, w', r, r', f, f', rfl, rfl⟩
  rfl

--OPT eqo recipe(rest, wanted, shape=mould)=Recipe
def fd_law : Fd := { n := 1, dom := fun ds => ∃ ns : List Int, ds = [.scr ns], cost := fun _ => 120, res := fun _ d => d = .bl true }
theorem cost_law (ns : List Int) (h : ns.length ≤ 63) : fd_law.cost [.scr ns] ≤ LIM := (by decide : 120 ≤ LIM)
theorem dom_law (ns : List Int) : fd_law.dom [.scr ns] := ⟨ns, rfl⟩
theorem cl_recipe {CS CP CH CR : Addr} {l : List Int} {w g s u : Nat} {row : List Int} (h : ShOk g s u) (hl : l.length ≤ 1000) (hb : ∀ p ∈ l, 0 ≤ p ∧ p < (many g s u : Nat)) (hw : w < many g s u) (hn : (w : Int) ∉ l) (er : recRow g s u l w = some row) : Cal (fd_recipe CS CP CH CR) [.lst (iL l), .int w, shD g s u] (recD CR w (readsV row w) (facsV row w)) := ⟨rfl, recipe_dom hl, rfl, fun d q => by
  rcases recipe_res q with ⟨h1, _⟩ | ⟨_, row', h1, h2⟩
  · exact absurd h1 hn
  · rw [er] at h1
    injection h1 with h1
    rw [h1]; exact h2, fun D x q => by
  have := (recipe_exn h hb hw q).2.1
  rw [er] at this; cases this⟩
theorem wt_at {G : Gx} {b : Nat} {t : TS} {ds ds' : List Sd} {E : DE} (e : ds = ds') (h : Wt G b t ds' E) : Wt G b t ds E := by subst e; exact h
def ownI (s a : Nat) : List Int := (List.range (s + 1)).map fun j => ((a * (s + 1) + j : Nat) : Int)
theorem ownI_mem {s a : Nat} {x : Int} : x ∈ ownI s a ↔ ∃ j, j ≤ s ∧ x = ((a * (s + 1) + j : Nat) : Int) := by
  unfold ownI
  rw [List.mem_map]
  constructor
  · rintro ⟨j, hj, rfl⟩
    exact ⟨j, by have := List.mem_range.mp hj; omega, rfl⟩
  · rintro ⟨j, hj, rfl⟩
    exact ⟨j, List.mem_range.mpr (by omega), rfl⟩
theorem ownI_len (s a : Nat) : (ownI s a).length = s + 1 := by simp [ownI]
theorem ownI_at {s a j : Nat} (h : j ≤ s) : (ownI s a).getD j 0 = ((a * (s + 1) + j : Nat) : Int) := by
  unfold ownI
  exact getD_mapR (fun j => ((a * (s + 1) + j : Nat) : Int)) (by omega)
def restI (s a c : Nat) : List Int := (restN s a c).map fun (p : Nat) => (p : Int)
theorem restI_mem {s a c : Nat} {x : Int} : x ∈ restI s a c ↔ ∃ j, j ≤ s ∧ j ≠ c ∧ x = ((a * (s + 1) + j : Nat) : Int) := by
  unfold restI
  rw [List.mem_map]
  constructor
  · rintro ⟨p, hp, rfl⟩
    obtain ⟨j, h1, h2, rfl⟩ := restN_mem.mp hp
    exact ⟨j, h1, h2, rfl⟩
  · rintro ⟨j, h1, h2, rfl⟩
    exact ⟨_, restN_mem.mpr ⟨j, h1, h2, rfl⟩, rfl⟩
theorem rest_filter (s a c : Nat) : (ownI s a).filter (fun x => !decide (x = ((a * (s + 1) + c : Nat) : Int))) = restI s a c := by
  unfold ownI restI restN
  rw [List.filter_map, List.filter_map, List.map_map]
  congr 1
  apply List.filter_congr
  intro j _
  show (!decide (_ = _)) = decide (_ ≠ _)
  by_cases e : j = c
  · subst e; simp
  · have e1 : ¬ ((a * (s + 1) + j : Nat) : Int) = ((a * (s + 1) + c : Nat) : Int) := by omega
    have e2 : a * (s + 1) + j ≠ a * (s + 1) + c := by omega
    rw [decide_eq_false e1, decide_eq_true e2]; rfl
theorem restN_split {s a c : Nat} (hc : c < s) : restN s a c = ((List.range s).map fun j => a * (s + 1) + j).filter (fun p => decide (p ≠ a * (s + 1) + c)) ++ [a * (s + 1) + s] := by
  unfold restN
  rw [List.range_succ, List.map_append, List.filter_append]
  congr 1
  exact List.filter_eq_self.mpr fun x hx => by rw [List.mem_singleton.mp hx]; exact decide_eq_true (show a * (s + 1) + s ≠ a * (s + 1) + c by omega)
theorem restN_len {s a c : Nat} (hc : c ≤ s) : (restN s a c).length = s := by
  have e : restI s a c = (ownI s a).erase ((a * (s + 1) + c : Nat) : Int) := by
    rw [← rest_filter]
    have nd : (ownI s a).Nodup := by
      unfold ownI
      rw [List.nodup_iff_pairwise_ne, List.pairwise_map]
      exact List.pairwise_lt_range.imp fun h => by omega
    rw [nd.erase_eq_filter]
    apply List.filter_congr
    intro x _
    by_cases e : x = ((a * (s + 1) + c : Nat) : Int)
    · subst e; simp
    · rw [decide_eq_false e, bne_iff_ne.mpr e]; rfl
  have h1 : (restI s a c).length = (restN s a c).length := by unfold restI; rw [List.length_map]
  rw [← h1, e, List.length_erase_of_mem (ownI_mem.mpr ⟨c, hc, rfl⟩), ownI_len]
  omega
theorem alone_facs {s a c : Nat} (s0 : 1 ≤ s) (hc : c ≤ s) : ((restN s a c).map fun p => if c = s then (1 : Int) else if p = a * (s + 1) + s then 1 else 96) = aloneF (restI s a c) ((a * (s + 1) + c : Nat) : Int) ((a * (s + 1) + s : Nat) : Int) := by
  have hl : (restI s a c).length = s := by unfold restI; rw [List.length_map, restN_len hc]
  unfold aloneF
  rw [hl]
  by_cases cs : c = s
  · rw [if_pos (by rw [cs]), List.eq_replicate_iff]
    refine ⟨by rw [List.length_map, restN_len hc], fun x hx => ?_⟩
    obtain ⟨p, _, rfl⟩ := List.mem_map.mp hx
    rw [if_pos cs]
  · have hc' : c < s := by omega
    have hlen := restN_len (a := a) hc
    rw [if_neg (by omega)]
    rw [restN_split hc'] at hlen ⊢
    rw [List.length_append] at hlen
    rw [List.map_append]
    congr 1
    · rw [List.eq_replicate_iff]
      refine ⟨by rw [List.length_map]; have : ([a * (s + 1) + s] : List Nat).length = 1 := rfl; omega, fun x hx => ?_⟩
      obtain ⟨p, hp, rfl⟩ := List.mem_map.mp hx
      obtain ⟨j, hj, rfl⟩ := List.mem_map.mp (List.mem_filter.mp hp).1
      have := List.mem_range.mp hj
      rw [if_neg cs, if_neg (by omega)]
    · show [if c = s then (1 : Int) else if a * (s + 1) + s = a * (s + 1) + s then 1 else 96] = [1]
      rw [if_neg cs, if_pos rfl]
theorem find_map {L : List Nat} {h : Nat → D} {w : Nat} (hw : w ∈ L) : ((L.map fun (p : Nat) => ((Sum.inl (p : Int) : Key), h p)).find? fun kv => decide (kv.1 = (Sum.inl (w : Int) : Key))).map (·.2) = some (h w) := by
  induction L with
  | nil => cases hw
  | cons x L ih =>
    rw [List.map_cons, List.find?_cons]
    by_cases e : x = w
    · subst e
      simp
    · have e1 : ¬ (Sum.inl (x : Int) : Key) = Sum.inl (w : Int) := fun z => by injection z with z; omega
      rw [decide_eq_false e1]
      exact ih ((List.mem_cons.mp hw).resolve_left fun z => e z.symm)
theorem recs_find {C : Addr} {l row : List Int} {w g s u : Nat} (hw : w < many g s u) (hn : (w : Int) ∉ l) (er : recRow g s u l w = some row) : ((recsK C g s u l).find? fun kv => decide (kv.1 = (Sum.inl (w : Int) : Key))).map (·.2) = some (recD C w (readsV row w) (facsV row w)) := by
  have q := find_map (L := (lostL (many g s u) l).filter fun (p : Nat) => (recRow g s u l p).isSome) (h := fun (p : Nat) => recD C p (readsV (rowOf g s u l p) p) (facsV (rowOf g s u l p) p)) (w := w) (List.mem_filter.mpr ⟨lostL_mem.mpr ⟨hw, hn⟩, by rw [er]; rfl⟩)
  have e : rowOf g s u l w = row := by unfold rowOf; rw [er]; rfl
  rw [e] at q
  exact q
theorem any_find {α : Type} {p : α → Bool} {L : List α} {β : Type} {f : α → β} {d : β} (h : (L.find? p).map f = some d) : L.any p = true := by
  cases e : L.find? p with
  | none => rw [e] at h; cases h
  | some x => exact List.any_eq_true.mpr ⟨x, List.mem_of_find?_eq_some e, List.find?_some e⟩
theorem ok_law (T : Txt K mg) : FnOk P w K mg base (L2.CX P w) 14 T.f_law T.fd_law ["script"] (SpD K fd_law) := by
  refine fn_data (dvs := []) (kws := []) (N := N_law) (.inr T.F_law) sc_law rfl (fun cdv A outer s H E hr tk => ?_)
  refine ⟨_, (pss_cons (ps_for (passes_of rfl) rfl (pi_range1 rfl T.b_range (pa_cons (pe_callB (g_max rfl) rfl T.b_max boot_max (pa_cons pe_int (pa_cons (pe_callB (g_min rfl) rfl T.b_min boot_min (pa_cons pe_int (pa_cons (pe_callB (g_len (K := K) rfl) rfl T.b_len boot_len (pa_cons (pv 0) pa_nil)) pa_nil))) pa_nil))) pa_nil)) (pg_name (i := 1) sc_law.nd rfl (Or.inl rfl)) (pss_cons (ps_set (i := 2) sc_law.nd rfl (Or.inr rfl) (pe_cl (m := 0) (ok__law_purse T) (hr.mono (by decide)) rfl T.g__law_purse T.k__law_purse T.b__law_purse (passD tk) (pa_cons (pv 0) (pa_cons (pv 1) pa_nil)) pk_nil))
      (pss_cons (ps_set (i := 3) sc_law.nd rfl (Or.inr rfl) (pe_cl (m := 0) (ok__law_shape T) (hr.mono (by decide)) rfl T.g__law_shape T.k__law_shape T.b__law_shape (passD tk) (pa_cons (pv 2) (pa_cons (pe_ix (g_ix (K := K) rfl hr) (pe_lst (pa_cons pe_int (pa_cons pe_int (pa_cons pe_int (pa_cons pe_int pa_nil))))) (pv 1) (fun _ _ => rfl)) pa_nil)) pk_nil))
      (pss_cons (ps_set (i := 4) sc_law.nd rfl (Or.inl rfl) (pe_cl (m := 0) (ok__law_units T) (hr.mono (by decide)) rfl T.g__law_units T.k__law_units T.b__law_units (passD tk) (pa_cons (pv 3) pa_nil) pk_nil))
      (pss_cons (ps_set (i := 5) sc_law.nd rfl (Or.inl rfl) (pe_op g_mul (pe_cl (m := 0) (ok__law_drawn T) (hr.mono (by decide)) rfl T.g__law_drawn T.k__law_drawn T.b__law_drawn (passD tk) (pa_cons (pv 2) (pa_cons (pe_ix (g_ix (K := K) rfl hr) (pv 3) pe_int (fun _ _ => rfl)) pa_nil)) pk_nil) (pe_op (g_add (K := K) rfl) (pe_ix (g_ix (K := K) rfl hr) (pv 3) pe_int (fun _ _ => rfl)) pe_int)))
      (pss_cons (ps_set (i := 6) sc_law.nd rfl (Or.inr rfl) (pe_listRg rfl rfl T.b_list (prg_2 rfl T.b_range (pv 5) (pe_op (g_add (K := K) rfl) (pe_op (g_add (K := K) rfl) (pv 5) (pe_ix (g_ix (K := K) rfl hr) (pv 3) pe_int (fun _ _ => rfl))) pe_int))))
      (pss_cons (ps_set (i := 7) sc_law.nd rfl (Or.inr rfl) (pe_ix (g_ix (K := K) rfl hr) (pv 6) (pe_cl (m := 0) (ok__law_drawn T) (hr.mono (by decide)) rfl T.g__law_drawn T.k__law_drawn T.b__law_drawn (passD tk) (pa_cons (pv 2) (pa_cons (pe_callB (g_len (K := K) rfl) rfl T.b_len boot_len (pa_cons (pv 6) pa_nil)) pa_nil)) pk_nil) (fun _ _ => rfl)))
      (pss_cons (ps_setLc (i := 8) (own := [("place", 16)]) rfl sc_law.nd rfl rfl (sw_true rfl rfl rfl (by decide +kernel)) (g_list (K := K) rfl (pv 6)) (blkOk_by (own := [("place", 16)]) (N := N_law) (sc := defScope s_law) (by decide +kernel)) (fun _ _ _ _ _ => (pg_name (i := 16) sc_law.nd rfl (Or.inl rfl))) (fun _ _ _ _ _ => (pts_one (pt_cmpR (g_ne (K := K) rfl hr) (pv 16) (pv 7) (nomark _)))) (fun _ _ _ _ _ => (pv 16)))
      (pss_cons (ps_setLc (i := 9) (own := [("place", 16)]) rfl sc_law.nd rfl rfl (sw_true rfl rfl rfl (by decide +kernel)) (pi_range1 rfl T.b_range (pa_cons (pe_callB (g_len (K := K) rfl) rfl T.b_len boot_len (pa_cons (pe_ix (g_ix (K := K) rfl hr) (pv 4) pe_int (fun _ _ => rfl)) pa_nil)) pa_nil)) (blkOk_by (own := [("place", 16)]) (N := N_law) (sc := defScope s_law) (by decide +kernel)) (fun _ _ _ _ _ => (pg_name (i := 16) sc_law.nd rfl (Or.inl rfl))) (fun _ _ _ _ _ => (pts_one (PW.pt (pw_and (pt_cmpR (g_notin (K := K) rfl hr) (pv 16) (pv 6) (by rfl)) (pw_and1 (pt_cmpR (g_eq (K := K) rfl hr) (pe_cl (m := 0) (ok__law_drawn T) (hr.mono (by decide)) rfl T.g__law_drawn T.k__law_drawn T.b__law_drawn pass_never (pa_cons (pv 2) (pa_cons pe_int pa_nil)) pk_nil) pe_int (nomark _))))))) (fun _ _ _ _ _ => (pv 16)))
      (pss_cons (ps_set (i := 10) sc_law.nd rfl (Or.inl rfl) (pe_op (g_add (K := K) rfl) (pv 9) (pv 8)))
      (pss_cons (ps_set (i := 11) sc_law.nd rfl (Or.inl rfl) (pe_cl (m := 0) (ok__law_drawn T) (hr.mono (by decide)) rfl T.g__law_drawn T.k__law_drawn T.b__law_drawn (passD tk) (pa_cons (pv 2) (pa_cons (pe_op (g_add (K := K) rfl) (pe_callB (g_len (K := K) rfl) rfl T.b_len boot_len (pa_cons (pv 10) pa_nil)) pe_int) pa_nil)) pk_nil))
      (pss_cons (ps_set (i := 10) sc_law.nd rfl (Or.inl rfl) (pe_op (g_add (K := K) rfl) (pe_slice (g_slice (K := K) rfl) (pv 10) (po_some (pv 11)) po_none) (pe_slice (g_slice (K := K) rfl) (pv 10) po_none (po_some (pv 11)))))
      (pss_cons (ps_asg (pe_cl (m := 0) (ok__law_recipe T) (hr.mono (by decide)) rfl T.g__law_recipe T.k__law_recipe T.b__law_recipe (passD tk) (pa_cons (pv 10) (pa_cons (pv 7) (pa_cons (pv 3) pa_nil))) pk_nil) (g_tup (K := K) (n := 2) rfl rfl (pgs_cons (pg_name (i := 12) sc_law.nd rfl (Or.inl rfl)) (pgs_cons (pg_name (i := 13) sc_law.nd rfl (Or.inl rfl)) pgs_nil))))
      (pss_cons (ps_if (PW.pt (pw_or (pt_cmpR g_isnot (pv 13) pe_non (nomark _)) (pw_or1 (pt_not (g_tru (K := K) rfl (pe_cl (m := 0) (ok__law_right T) (hr.mono (by decide)) rfl T.g__law_right T.k__law_right T.b__law_right (passD tk) (pa_cons (pv 12) (pa_cons (pv 4) (pa_cons (pv 10) (pa_cons (pv 7) pa_nil)))) pk_nil) (fun _ => rfl)))))) (pss_one (ps_ret pe_bl)) pss_nil)
      (pss_cons (ps_set (i := 14) sc_law.nd rfl (Or.inl rfl) (pe_cl (m := 1) (ok_recipes T) (hr.mono (by decide)) rfl T.g_recipes T.k_recipes T.b_recipes_1_shape (passD tk) (pa_cons (pv 10) pa_nil) (pk_cons (pv 3) pk_nil)))
      (pss_cons (ps_if (PW.pt (pw_or (pt_cmpR (g_notin (K := K) rfl hr) (pv 7) (pv 14) (by rfl)) (pw_or1 (pt_not (g_tru (K := K) rfl (pe_cl (m := 0) (ok__law_right T) (hr.mono (by decide)) rfl T.g__law_right T.k__law_right T.b__law_right (passD tk) (pa_cons (pe_ix (g_ix (K := K) rfl hr) (pv 14) (pv 7) (fun _ _ => rfl)) (pa_cons (pv 4) (pa_cons (pv 10) (pa_cons (pv 7) pa_nil)))) pk_nil) (fun _ => rfl)))))) (pss_one (ps_ret pe_bl)) pss_nil)
      (pss_cons (ps_if (pt_not (pt_cmpR (g_eqO (K := K) rfl (ok_Recipe_eq T) (hr.mono (by decide)) T.bb_Recipe_eq T.me_Recipe_eq.at_ T.me_Recipe_eq.fn) (pe_cl (m := 1) (ok_recipe T) (hr.mono (by decide)) rfl T.g_recipe T.k_recipe T.b_recipe_2_shape (passD tk) (pa_cons (pv 8) (pa_cons (pv 7) pa_nil)) (pk_cons (pv 3) pk_nil)) (pe_cl (m := 0) (ok__law_alone T) (hr.mono (by decide)) rfl T.g__law_alone T.k__law_alone T.b__law_alone (passD tk) (pa_cons (pv 8) (pa_cons (pv 7) (pa_cons (pe_ix (g_ix (K := K) rfl hr) (pv 6) (pe_un g_neg pe_int) (fun _ _ => rfl)) pa_nil))) pk_nil) (nomark _))) (pss_one (ps_ret pe_bl)) pss_nil)
      (pss_cons (ps_setLc (i := 15) (own := [("place", 16)]) rfl sc_law.nd rfl rfl (sw_true rfl rfl rfl (by decide +kernel)) (g_list (K := K) rfl (pv 9)) (blkOk_by (own := [("place", 16)]) (N := N_law) (sc := defScope s_law) (by decide +kernel)) (fun _ _ _ _ _ => (pg_name (i := 16) sc_law.nd rfl (Or.inl rfl))) (fun _ _ _ _ _ => (pts_one (pt_cmpR g_lt (pv 16) (pe_op g_mul (pe_ix (g_ix (K := K) rfl hr) (pv 3) pe_int (fun _ _ => rfl)) (pe_op (g_add (K := K) rfl) (pe_ix (g_ix (K := K) rfl hr) (pv 3) pe_int (fun _ _ => rfl)) pe_int)) (nomark _)))) (fun _ _ _ _ _ => (pv 16)))
      (pss_one (ps_for (passes_of rfl) rfl (g_list (K := K) rfl (pv 6)) (pg_name (i := 16) sc_law.nd rfl (Or.inl rfl)) (pss_one (ps_if (pt_cmpR g_is (pe_ix (g_ix (K := K) rfl hr) (pe_cl (m := 0) (ok__law_recipe T) (hr.mono (by decide)) rfl T.g__law_recipe T.k__law_recipe T.b__law_recipe (passD tk) (pa_cons (pv 15) (pa_cons (pv 16) (pa_cons (pv 3) pa_nil))) pk_nil) pe_int (fun _ _ => rfl)) pe_non (nomark _)) (pss_one (ps_ret pe_bl)) pss_nil))))))))))))))))))))))
      (pss_one (ps_ret pe_bl))), fun ds N' b hl hd acc => ?_⟩
  obtain ⟨ns, rfl⟩ := hd
  have hc : fd_law.cost [.scr ns] + b = b + 120 := by show 120 + b = b + 120; omega
  rw [hc]
  refine w_seq (w_for allV (fun i ds b' => ∃ s2 s3 s4 s5 s6 s7 s8 s9 s10 s11 s12 s13 s14 s15 s16 sk : Sd, ds = [.dat (.scr ns), sk, s2, s3, s4, s5, s6, s7, s8, s9, s10, s11, s12, s13, s14, s15, s16] ∧ b' = b + 30 * (4 - i)) (ei_r1 (n := max 1 (min 4 (ns.length : Int))) (by walk_at "ev") (by omega)) ⟨_, _, _, _, _, _, _, _, _, _, _, _, _, _, _, _, rfl, by omega⟩ ?_ ?_)
  · rintro i ds' b' hi ⟨s2, s3, s4, s5, s6, s7, s8, s9, s10, s11, s12, s13, s14, s15, s16, sk, rfl, rfl⟩
    refine ⟨_, tg_name, ?_⟩
    have hi4 : i < 4 := by omega
    have hb : b + 30 * (4 - i) = (b + 30 * (4 - (i + 1))) + 30 := by omega
    rw [hb]
    generalize hb1 : b + 30 * (4 - (i + 1)) = b1
    refine w_seq (w_asg (by walk_at "ev") (w_seq ?_))
    have hmost : ∃ m : Int, L2.atI [D.int 22, .int 12, .int 12, .int 12] (i : Int) = some (.int m) ∧ 2 ≤ m ∧ m ≤ 100 := by
      have hk : i = 0 ∨ i = 1 ∨ i = 2 ∨ i = 3 := by omega
      rcases hk with rfl | rfl | rfl | rfl
      · exact ⟨22, rfl, by decide, by decide⟩
      · exact ⟨12, rfl, by decide, by decide⟩
      · exact ⟨12, rfl, by decide, by decide⟩
      · exact ⟨12, rfl, by decide, by decide⟩
    obtain ⟨most, hat, m0, m1⟩ := hmost
    refine wt_at (ds' := [_, _, _, _, _, _, _, _, _, _, _, _, _, _, _, _, _]) rfl ?_
    refine ws_asg (evs_cal (b' := b1 + 29) (es := [.purse, .int most]) (ea_cons (ev_var rfl) (ea_cons (ev_op (x := .lst [.int 22, .int 12, .int 12, .int 12]) (y := .int (i : Int)) (by walk_at "ev") (ev_var rfl) (o_ixL hat)) ea_nil)) (cas__law_shape m0 m1) rfl (by omega)) ?_
    rintro _ ⟨g, s, u, rfl, h, hmo⟩
    obtain ⟨⟨g0, g1⟩, ⟨s0, s1⟩, u1⟩ := h.nat
    have hm := h.many
    have hmm : many g s u ≤ 22 := by unfold many; omega
    have hgs : g * s ≤ 16 := Nat.mul_le_mul g1 s1
    refine w_seq (w_asg (d := .lst (rL (unitsV g s u))) (ev_cal (es := [shD g s u]) (by walk_at "ev") (cl__law_units h) rfl) (w_seq ?_))
    refine ws_asg (b' := b1 + 28) (R := fun d => ∃ a : Nat, a < g ∧ d = .int ((a * (s + 1) : Nat) : Int)) (evs_op (b1 := b1 + 28) (R1 := fun d => ∃ z : Int, d = .int z ∧ 0 ≤ z ∧ z < g) (R2' := fun _ y => y = .int ((s : Int) + 1)) (evs_cal (b' := b1 + 28) (es := [.purse, .int (g : Int)]) (ea_cons (ev_var rfl) (ea_cons (ev_op (x := shD g s u) (y := .int 0) (ev_var rfl) ev_int (o_ixT rfl)) ea_nil)) (cas_draw (m := (g : Int)) (by omega) (by omega)) rfl (by omega)) (fun _ _ => ev_op (x := .int (s : Int)) (y := .int 1) (ev_op (x := shD g s u) (y := .int 1) (ev_var rfl) ev_int (o_ixT rfl)) ev_int o_add) fun x y ex ey => by
      obtain ⟨z, rfl, z0, z1⟩ := ex
      subst ey
      obtain ⟨a, rfl⟩ := Int.eq_ofNat_of_zero_le z0
      exact (o_mul (cmul_of 10 10 (by omega) (by omega))).to ⟨a, by omega, by push_cast; rfl⟩) ?_
    rintro _ ⟨a, ha, rfl⟩
    have hal : a * (s + 1) + s < g * (s + 1) := blk_lt ha (by omega)
    have hgm : g * (s + 1) ≤ many g s u := by unfold many; omega
    have eown : ((List.range ((((a * (s + 1) : Nat) : Int) + (s : Int) + 1) - ((a * (s + 1) : Nat) : Int)).toNat).map fun k => D.int (((a * (s + 1) : Nat) : Int) + (k : Nat))) = iL (ownI s a) := by
      rw [show ((((a * (s + 1) : Nat) : Int) + (s : Int) + 1) - ((a * (s + 1) : Nat) : Int)).toNat = s + 1 by omega]
      unfold ownI iL
      rw [List.map_map]
      apply List.map_congr_left
      intro j _
      show D.int (((a * (s + 1) : Nat) : Int) + (j : Nat)) = D.int ((a * (s + 1) + j : Nat) : Int)
      rw [Int.natCast_add]
    refine wt_at (ds' := [_, _, _, _, _, _, _, _, _, _, _, _, _, _, _, _, _]) rfl ?_
    refine w_seq (w_asg (d := .lst (iL (ownI s a))) (EvD.eq (EvO.evd (eo_rg2 (i := ((a * (s + 1) : Nat) : Int)) (j := ((a * (s + 1) : Nat) : Int) + (s : Int) + 1) (ev_var rfl) (ev_op (x := .int (((a * (s + 1) : Nat) : Int) + (s : Int))) (y := .int 1) (ev_op (x := .int ((a * (s + 1) : Nat) : Int)) (y := .int (s : Int)) (ev_var rfl) (ev_op (x := shD g s u) (y := .int 1) (ev_var rfl) ev_int (o_ixT rfl)) o_add) ev_int o_add) (by omega))) (by rw [eown])) (w_seq ?_))
    refine ws_asg (b' := b1 + 27) (R := fun d => ∃ c : Nat, c ≤ s ∧ d = .int ((a * (s + 1) + c : Nat) : Int)) (evs_op (b1 := b1 + 28) (R1 := fun d => d = .lst (iL (ownI s a))) (R2' := fun _ y => ∃ z : Int, y = .int z ∧ 0 ≤ z ∧ z < (s : Int) + 1) (ev_var rfl) (fun _ _ => evs_cal (b' := b1 + 27) (es := [.purse, .int ((s : Int) + 1)]) (ea_cons (ev_var rfl) (ea_cons (EvD.eq (ev_cb (ea_cons (ev_var rfl) ea_nil) c_lenL) (by rw [iL_len, ownI_len]; push_cast; rfl)) ea_nil)) (cas_draw (m := (s : Int) + 1) (by omega) (by omega)) rfl (by omega)) fun x y ex ey => by
      subst ex
      obtain ⟨z, rfl, z0, z1⟩ := ey
      obtain ⟨c, rfl⟩ := Int.eq_ofNat_of_zero_le z0
      have hat : L2.atI (iL (ownI s a)) (c : Int) = some (.int ((ownI s a).getD c 0)) := atI_iL (by rw [ownI_len]; omega)
      rw [ownI_at (by omega)] at hat
      exact (o_ixL hat).to ⟨c, by omega, rfl⟩) ?_
    rintro _ ⟨c, hc, rfl⟩
    have hw := grp_lt (u := u) ha hc
    refine w_seq (w_asg (d := .lst (iL (restI s a c))) (EvD.eq (ev_lc (p := true) (fun i => !decide ((ownI s a).getD i 0 = ((a * (s + 1) + c : Nat) : Int))) (fun i => .int ((ownI s a).getD i 0)) (ei_list (xs := iL (ownI s a)) (ev_var rfl)) (by rw [iL_len, ownI_len]; omega) fun i hi => ?_) ?_) (w_seq ?_))
    · rw [iL_len] at hi
      rw [getD_iL hi]
      exact ⟨_, tg_name, fun b0 => ⟨by walk_at "ev", fun _ => by walk_at "ev"⟩⟩
    · rw [iL_len]
      congr 1
      rw [← rest_filter]
      unfold iL
      have e : ownI s a = (List.range (ownI s a).length).map fun i => (ownI s a).getD i 0 := by
        apply List.ext_getElem
        · simp
        · intro k h1 h2
          rw [List.getElem_map, List.getElem_range, List.getD_eq_getElem?_getD, List.getElem?_eq_getElem h1]; rfl
      conv => rhs; rw [e]
      rw [List.filter_map, List.map_map]
      rfl
    refine wt_at (ds' := [_, _, _, _, _, _, _, _, _, _, _, _, _, _, _, _, _]) rfl ?_
    -- the others
    refine ws_asg (b' := b1 + 5) (R := fun d => ∃ os : List Int, d = .lst (iL os) ∧ (∀ x ∈ os, 0 ≤ x ∧ x < many g s u ∧ x ∉ ownI s a) ∧ os.length ≤ many g s u) (EvS.imp (evs_lcT (b1 := b1 + 27) (b' := b1 + 5) 1 (fun i acc => ∃ os : List Int, acc = iL os ∧ (∀ x ∈ os, 0 ≤ x ∧ x < i ∧ x ∉ ownI s a) ∧ os.length ≤ i) (ei_r1 (p := true) (n := ((many g s u : Nat) : Int)) (ea_cons (EvD.eq (ev_cb (ea_cons (ev_op (x := .lst (rL (unitsV g s u))) (y := .int 0) (ev_var rfl) ev_int (o_ixL (d := .lst (iL (fillV g s u (unitD (g * s) 0)))) ?_)) ea_nil) c_lenL) (by rw [iL_len, fillV_len])) ea_nil) (by omega)) (by omega) ⟨[], rfl, (fun x h => by cases h), Nat.zero_le _⟩ ?_ ?_ ?_ (by omega)) fun d ⟨acc, e1, os, e2, e3, e4⟩ => ⟨os, by rw [e1, e2], (fun x hx => by have := e3 x hx; rw [Int.toNat_natCast] at this; exact this), by rw [Int.toNat_natCast] at e4; exact e4⟩) ?_
    · have hu0 : 0 < (rL (unitsV g s u)).length := by rw [rL_len, units_cnt]; exact Nat.mul_pos g0 s0
      have q := atI_at hu0
      rw [getD_rL (by rw [rL_len] at hu0; exact hu0)] at q
      have e : (unitsV g s u).getD 0 [] = fillV g s u (unitD (g * s) 0) := by
        unfold unitsV
        rw [List.getD_eq_getElem?_getD, List.getElem?_map, List.getElem?_eq_getElem (by rw [List.length_range]; exact Nat.mul_pos g0 s0), List.getElem_range]; rfl
      rw [e] at q
      exact q
    · rintro i acc hi ⟨os, rfl, e3, e4⟩
      rw [Int.toNat_natCast] at hi
      have more : ∀ c : Bool, (c = true → (i : Int) ∉ ownI s a) → ∃ os' : List Int, (if c = true then iL os ++ [.int (i : Int)] else iL os) = iL os' ∧ (∀ x ∈ os', 0 ≤ x ∧ x < (i + 1 : Nat) ∧ x ∉ ownI s a) ∧ os'.length ≤ i + 1 := fun c hcc => by
        cases c with
        | false => exact ⟨os, rfl, (fun x hx => by have := e3 x hx; exact ⟨this.1, by omega, this.2.2⟩), by omega⟩
        | true =>
          refine ⟨os ++ [(i : Int)], by rw [iL_app]; rfl, (fun x hx => ?_), by rw [List.length_append]; show _ + 1 ≤ _; omega⟩
          rcases List.mem_append.mp hx with hx | hx
          · have := e3 x hx; exact ⟨this.1, by omega, this.2.2⟩
          · rw [List.mem_singleton.mp hx]; exact ⟨by omega, by omega, hcc rfl⟩
      refine ⟨_, tg_name, fun b0 => ⟨0, fun c => c = true → (i : Int) ∉ ownI s a, ?_, fun hT => ?_, fun _ => more false (fun z => nomatch z)⟩⟩
      · refine ets_and (b1 := b0 + 1) (R1 := fun c => c = !decide ((i : Int) ∈ ownI s a)) (R2 := fun _ => True) (et_tst (ev_op (x := .int (i : Int)) (y := .lst (iL (ownI s a))) (ev_var rfl) (ev_var rfl) o_notinI)) (fun _ => ets_eqI ((evs_cal (b' := b0) (es := [.purse, .int 2]) (by walk_at "ev") (cas_draw (m := 2) (by decide) (by decide)) rfl (by omega)).imp fun d ⟨i, e, _⟩ => ⟨i, e⟩)) (by omega) (fun _ z => nomatch z) fun c hR _ _ => ?_
        exact of_decide_eq_false (by simpa using hR)
      · exact ev_var rfl |>.imp fun d e => by rw [e]; exact more true hT
    · rintro acc ⟨os, rfl, e3, e4⟩
      rw [iL_len]; exact e4
    · rintro i acc ⟨os, rfl, e3, e4⟩
      rw [iL_len]; exact e4
    rintro _ ⟨os, rfl, ho, hol⟩
    have hrl : (restI s a c).length ≤ 4 := by unfold restI; rw [List.length_map, restN_len hc]; exact s1
    have hrl1 : 1 ≤ (restI s a c).length := by unfold restI; rw [List.length_map, restN_len hc]; exact s0
    refine wt_at (ds' := [_, _, _, _, _, _, _, _, _, _, _, _, _, _, _, _, _]) rfl ?_
    refine w_seq (w_asg (d := .lst (iL (os ++ restI s a c))) (EvD.eq (ev_op (x := .lst (iL os)) (y := .lst (iL (restI s a c))) (ev_var rfl) (ev_var rfl) (o_catL (by rw [iL_len, iL_len]; omega))) (by rw [iL_app])) (w_seq ?_))
    have hll : (os ++ restI s a c).length ≤ 26 := by rw [List.length_append]; omega
    refine ws_asg (evs_cal (b' := b1 + 4) (es := [.purse, .int (((os ++ restI s a c).length : Nat) + 1 : Int)]) (ea_cons (ev_var rfl) (ea_cons (ev_op (x := .int ((os ++ restI s a c).length : Nat)) (y := .int 1) (EvD.eq (ev_cb (ea_cons (ev_var rfl) ea_nil) c_lenL) (by rw [iL_len])) ev_int o_add) ea_nil)) (cas_draw (m := ((os ++ restI s a c).length : Nat) + 1) (by omega) (by omega)) rfl (by omega)) ?_
    rintro _ ⟨z, rfl, z0, z1⟩
    obtain ⟨at_, rfl⟩ := Int.eq_ofNat_of_zero_le z0
    have hmem : ∀ x, x ∈ (os ++ restI s a c).drop at_ ++ (os ++ restI s a c).take at_ ↔ x ∈ os ∨ x ∈ restI s a c := fun x => by
      rw [List.mem_append, ← List.mem_append (s := os)]
      constructor
      · rintro (h | h)
        · exact List.mem_of_mem_drop h
        · exact List.mem_of_mem_take h
      · intro h
        rw [← List.take_append_drop at_ (os ++ restI s a c)] at h
        exact (List.mem_append.mp h).symm
    have hlen2 : ((os ++ restI s a c).drop at_ ++ (os ++ restI s a c).take at_).length ≤ 26 := by
      rw [List.length_append, List.length_drop, List.length_take]; omega
    have ecut : iL ((os ++ restI s a c).drop at_ ++ (os ++ restI s a c).take at_) = (iL (os ++ restI s a c)).drop at_ ++ (iL (os ++ restI s a c)).take at_ := by
      rw [iL_app]; unfold iL; rw [List.map_drop, List.map_take]
    refine wt_at (ds' := [_, _, _, _, _, _, _, _, _, _, _, _, _, _, _, _, _]) rfl ?_
    refine w_seq (w_asg (d := .lst (iL ((os ++ restI s a c).drop at_ ++ (os ++ restI s a c).take at_))) (EvD.eq (ev_op (x := .lst ((iL (os ++ restI s a c)).drop at_)) (y := .lst ((iL (os ++ restI s a c)).take at_)) (EvD.eq (ev_slice (ev_var rfl) (ep_some (ev_var rfl)) ep_none sl_L) (by rw [slcFrom])) (EvD.eq (ev_slice (ev_var rfl) ep_none (ep_some (ev_var rfl)) sl_L) (by rw [slcTo])) (o_catL (by rw [← List.length_append, ← ecut, iL_len]; omega))) (by rw [ecut])) (w_seq ?_))
    generalize (os ++ restI s a c).drop at_ ++ (os ++ restI s a c).take at_ = left at *
    have hlb : ∀ p ∈ left, 0 ≤ p ∧ p < (many g s u : Nat) := fun p hp => by
      rcases (hmem p).mp hp with hp | hp
      · have := ho p hp; exact ⟨this.1, this.2.1⟩
      · obtain ⟨j, j1, j2, rfl⟩ := restI_mem.mp hp
        have := grp_lt (u := u) ha j1
        omega
    have hwl : ((a * (s + 1) + c : Nat) : Int) ∉ left := fun hp => by
      rcases (hmem _).mp hp with hp | hp
      · exact (ho _ hp).2.2 (ownI_mem.mpr ⟨c, hc, rfl⟩)
      · obtain ⟨j, j1, j2, e⟩ := restI_mem.mp hp
        omega
    obtain ⟨row, er⟩ := grp_tells ha hc hlb hwl fun i hi hic => (hmem _).mpr (.inr (restI_mem.mpr ⟨i, hi, hic, rfl⟩))
    have hR := row_RightV (us := unitsV g s u) units_keep (by omega) hw er
    have cright := cl__law_right (C := T.t_Recipe) (fun v hv => (units_keep v hv).1) (by rw [units_cnt]; omega) (by omega) hR
    refine ws_tg (b' := b1 + 4) (evs_cal (es := [.lst (iL left), .int ((a * (s + 1) + c : Nat) : Int), shD g s u]) (by walk_at "ev") (cas__law_recipe (CS := T.t_NoShape) (CP := T.t_NoPlace) (CH := T.t_Hidden) (CR := T.t_Recipe) h (by omega) hlb hw) rfl (by omega)) ?_
    rintro _ (⟨r, hr, rfl⟩ | ⟨_, hno, _⟩)
    case inr => rw [er] at hno; cases hno
    have hr : r = recD T.t_Recipe ((a * (s + 1) + c : Nat) : Int) (readsV row (a * (s + 1) + c)) (facsV row (a * (s + 1) + c)) := by
      rcases hr with ⟨h1, _⟩ | ⟨_, row', h1, h2⟩
      · exact absurd h1 hwl
      · rw [er] at h1
        injection h1 with h1
        rw [h1]; exact h2
    subst hr
    refine ⟨_, by walk_at "tg", ?_⟩
    refine wt_at (ds' := [_, _, _, _, _, _, _, _, _, _, _, _, _, _, _, _, _]) rfl ?_
    refine w_seq (w_if (c := false) (EvT.eq (et_or (c := false) (et_tst (ev_op (x := .non) (y := .non) (ev_var rfl) ev_non o_notN1)) fun _ => et_not (et_tru (d := .bl true) (ev_cal (p := false) (es := [recD T.t_Recipe ((a * (s + 1) + c : Nat) : Int) (readsV row (a * (s + 1) + c)) (facsV row (a * (s + 1) + c)), .lst (rL (unitsV g s u)), .lst (iL left), .int ((a * (s + 1) + c : Nat) : Int)]) (by walk_at "ev") cright rfl) rfl)) rfl) (fun z => nomatch z) (fun _ => w_next ?_))
    refine w_seq (w_asg (d := .dct (recsK T.t_Recipe g s u left)) (ev_calK (es := [.lst (iL left)]) (fs := [shD g s u]) (by walk_at "ev") (by walk_at "ev") (cl_recipes h (by omega) hlb) rfl rfl) ?_)
    refine wt_at (ds' := [_, _, _, _, _, _, _, _, _, _, _, _, _, _, _, _, _]) rfl ?_
    have hfind := recs_find (C := T.t_Recipe) hw hwl er
    refine w_seq (w_if (c := false) (EvT.eq (et_or (c := false) (EvT.eq (et_tst (ev_op (x := kD (.inl ((a * (s + 1) + c : Nat) : Int))) (y := .dct (recsK T.t_Recipe g s u left)) (ev_var rfl) (ev_var rfl) o_notinK)) (by rw [any_find hfind]; rfl)) fun _ => et_not (et_tru (d := .bl true) (ev_cal (p := false) (es := [recD T.t_Recipe ((a * (s + 1) + c : Nat) : Int) (readsV row (a * (s + 1) + c)) (facsV row (a * (s + 1) + c)), .lst (rL (unitsV g s u)), .lst (iL left), .int ((a * (s + 1) + c : Nat) : Int)]) (ea_cons (ev_op (x := .dct (recsK T.t_Recipe g s u left)) (y := kD (.inl ((a * (s + 1) + c : Nat) : Int))) (ev_var rfl) (ev_var rfl) (o_ixD hfind)) (by walk_at "ev")) cright rfl) rfl)) rfl) (fun z => nomatch z) (fun _ => w_next ?_))
    -- nothing but the rest of the group
    have hrb : ∀ p ∈ restI s a c, 0 ≤ p ∧ p < (many g s u : Nat) := fun p hp => by
      obtain ⟨j, j1, j2, rfl⟩ := restI_mem.mp hp
      have := grp_lt (u := u) ha j1
      omega
    have hwr : ((a * (s + 1) + c : Nat) : Int) ∉ restI s a c := fun hp => by
      obtain ⟨j, j1, j2, e⟩ := restI_mem.mp hp
      omega
    obtain ⟨row2, er2⟩ := grp_tells ha hc hrb hwr fun i hi hic => restI_mem.mpr ⟨i, hi, hic, rfl⟩
    obtain ⟨e1, e2⟩ := grp_alone ha hc er2
    have e3 : readsV row2 (a * (s + 1) + c) = restI s a c := by unfold readsV restI; rw [e1]
    have cr2 := cl_recipe (CS := T.t_NoShape) (CP := T.t_NoPlace) (CH := T.t_Hidden) (CR := T.t_Recipe) h (by omega) hrb hw hwr er2
    rw [e3, e2, alone_facs s0 hc] at cr2
    have ca := cl__law_alone (C := T.t_Recipe) (rest := restI s a c) (w := ((a * (s + 1) + c : Nat) : Int)) (z := ((a * (s + 1) + s : Nat) : Int)) hrl1 (by omega)
    have hnf : PySem.W.notFirst K T.t_Recipe (.ref T.t_Recipe) = true := by unfold PySem.W.notFirst; rw [beq_self_eq_true, Bool.true_or]
    have hlast : L2.atI (iL (ownI s a)) (-1) = some (.int ((a * (s + 1) + s : Nat) : Int)) := by
      refine atI_neg (by decide) (by rw [iL_len, ownI_len]; omega) ?_
      rw [iL_len, ownI_len, show (-1 + ((s + 1 : Nat) : Int)).toNat = s by omega]
      unfold iL
      rw [List.getElem?_map, List.getElem?_eq_getElem (by rw [ownI_len]; omega)]
      have q := ownI_at (s := s) (a := a) (Nat.le_refl s)
      rw [List.getD_eq_getElem?_getD, List.getElem?_eq_getElem (by rw [ownI_len]; omega)] at q
      exact congrArg (fun z => some (D.int z)) q
    refine w_seq (w_if (c := false) (EvT.eq (et_not (et_tst (ev_op (x := recD T.t_Recipe ((a * (s + 1) + c : Nat) : Int) (restI s a c) (aloneF (restI s a c) ((a * (s + 1) + c : Nat) : Int) ((a * (s + 1) + s : Nat) : Int))) (y := recD T.t_Recipe ((a * (s + 1) + c : Nat) : Int) (restI s a c) (aloneF (restI s a c) ((a * (s + 1) + c : Nat) : Int) ((a * (s + 1) + s : Nat) : Int))) (ev_calK (es := [.lst (iL (restI s a c)), .int ((a * (s + 1) + c : Nat) : Int)]) (fs := [shD g s u]) (by walk_at "ev") (by walk_at "ev") cr2 rfl rfl) (ev_cal (es := [.lst (iL (restI s a c)), .int ((a * (s + 1) + c : Nat) : Int), .int ((a * (s + 1) + s : Nat) : Int)]) (ea_cons (ev_var rfl) (ea_cons (ev_var rfl) (ea_cons (ev_op (x := .lst (iL (ownI s a))) (y := .int (-1)) (ev_var rfl) (ev_un ev_int u_neg) (o_ixL hlast)) ea_nil))) ca rfl) (o_eqO cl_Recipe_eq (.ins T.in_Recipe) hnf)))) (by simp)) (fun z => nomatch z) (fun _ => w_next ?_))
    refine wt_at (ds' := [_, _, _, _, _, _, _, _, _, _, _, _, _, _, _, _, _]) rfl ?_
    -- other groups alone
    refine Wt.less (b' := b1) ?_ (by omega)
    refine w_seq (w_asg (d := .lst (iL (os.filter fun x => decide (x < ((g * (s + 1) : Nat) : Int))))) (EvD.eq (ev_lc (p := true) (fun i => decide (os.getD i 0 < ((g * (s + 1) : Nat) : Int))) (fun i => .int (os.getD i 0)) (ei_list (xs := iL os) (ev_var rfl)) (by rw [iL_len]; omega) fun i hi => ?_) ?_) ?_)
    · rw [iL_len] at hi
      rw [getD_iL hi]
      refine ⟨_, tg_name, fun b0 => ⟨et_tst (ev_op (x := .int (os.getD i 0)) (y := .int ((g * (s + 1) : Nat) : Int)) (ev_var rfl) (EvD.eq (ev_op (x := .int (g : Int)) (y := .int ((s : Int) + 1)) (ev_op (x := shD g s u) (y := .int 0) (ev_var rfl) ev_int (o_ixT rfl)) (ev_op (x := .int (s : Int)) (y := .int 1) (ev_op (x := shD g s u) (y := .int 1) (ev_var rfl) ev_int (o_ixT rfl)) ev_int o_add) (o_mul (cmul_of 10 10 (by omega) (by omega)))) (by push_cast; rfl)) o_lt), fun _ => by walk_at "ev"⟩⟩
    · rw [iL_len]
      congr 1
      unfold iL
      have e : os = (List.range os.length).map fun i => os.getD i 0 := by
        apply List.ext_getElem
        · simp
        · intro k h1 h2
          rw [List.getElem_map, List.getElem_range, List.getD_eq_getElem?_getD, List.getElem?_eq_getElem h1]; rfl
      conv => rhs; rw [e]
      rw [List.filter_map, List.map_map]
      rfl
    generalize hfar : (os.filter fun x => decide (x < ((g * (s + 1) : Nat) : Int))) = far
    have hfm : ∀ x, x ∈ far ↔ x ∈ os ∧ x < ((g * (s + 1) : Nat) : Int) := fun x => by rw [← hfar, List.mem_filter, decide_eq_true_iff]
    have hfl : far.length ≤ 22 := by rw [← hfar]; exact Nat.le_trans (List.length_filter_le _ _) (by omega)
    refine w_for allV (fun i ds b' => ∃ s1 s4 s5 s7 s8 s9 s10 s11 s12 s13 s14 s16 : Sd, ds = [.dat (.scr ns), s1, .dat .purse, .dat (shD g s u), s4, s5, .dat (.lst (iL (ownI s a))), s7, s8, s9, s10, s11, s12, s13, s14, .dat (.lst (iL far)), s16] ∧ b' = b1) (ei_list (xs := iL (ownI s a)) (ev_var rfl)) ⟨_, _, _, _, _, _, _, _, _, _, _, _, rfl, rfl⟩ ?_ ?_
    · rintro k ds' b' hk ⟨t1, t4, t5, t7, t8, t9, t10, t11, t12, t13, t14, t16, rfl, rfl⟩
      rw [iL_len, ownI_len] at hk
      rw [getD_iL (by rw [ownI_len]; exact hk), ownI_at (by omega)]
      refine ⟨_, tg_name, ?_⟩
      have hno := grp_hidden (u := u) (l := far) ha (show k ≤ s by omega) s0 fun p hp => by
        obtain ⟨h1, h2⟩ := (hfm _).mp hp
        refine ⟨by omega, fun i hi e => (ho _ h1).2.2 (ownI_mem.mpr ⟨i, hi, by rw [e]⟩)⟩
      refine ws_if (b1 := b') (R := fun c => c = false) (ets_tst (evs_op (b1 := b') (R1 := fun d => d ≠ .non) (R2' := fun _ y => y = .non) (evs_op (b1 := b') (R1 := fun d => ∃ gh, d = .tup [.non, hidX T.t_Hidden (a * (s + 1) + k) gh]) (R2' := fun _ y => y = .int 1) ((evs_cal (b' := b') (es := [.lst (iL far), .int ((a * (s + 1) + k : Nat) : Int), shD g s u]) (by walk_at "ev") (cas__law_recipe (CS := T.t_NoShape) (CP := T.t_NoPlace) (CH := T.t_Hidden) (CR := T.t_Recipe) h (by omega) (fun p hp => ⟨(ho p ((hfm p).mp hp).1).1, (ho p ((hfm p).mp hp).1).2.1⟩) (grp_lt ha (show k ≤ s by omega))) rfl (by omega)).imp fun d q => ?_) (fun _ _ => ev_int) fun x y ex ey => ?_) (fun _ _ => ev_non) fun x y ex ey => ?_)) (fun z => nomatch z) (fun _ => w_next ⟨_, _, _, _, _, _, _, _, _, _, _, _, rfl, rfl⟩)
      · rcases q with ⟨r, hr, _⟩ | ⟨_, _, gh, _, q⟩
        · rcases hr with ⟨h1, _⟩ | ⟨_, row', h1, _⟩
          · exact absurd (ownI_mem.mpr ⟨k, by omega, rfl⟩) (ho _ ((hfm _).mp h1).1).2.2
          · rw [hno] at h1; cases h1
        · exact ⟨gh, q⟩
      · obtain ⟨gh, rfl⟩ := ex
        subst ey
        exact (o_ixT rfl).to (fun z => nomatch z)
      · subst ey
        exact (o_isN ex).to ⟨false, rfl, rfl⟩
    · rintro ds' b' ⟨t1, t4, t5, t7, t8, t9, t10, t11, t12, t13, t14, t16, rfl, rfl⟩
      exact ⟨_, _, _, _, _, _, _, _, _, _, _, _, _, _, _, _, rfl, rfl⟩
  · rintro ds' b' ⟨s2, s3, s4, s5, s6, s7, s8, s9, s10, s11, s12, s13, s14, s15, s16, sk, rfl, rfl⟩
    exact w_ret (d := .bl true) (by walk_at "ev") ⟨by show b ≤ _; omega, rfl⟩

end
/-! ### all of it -/
theorem all_mk {P : Program} {w : World} {K : PySem.W.Frag} {h : Heap} {mg : Str → Option Value} {fa : Addr} (X : K.In h) (G : h.Ns mainGlobals mg) (hfa : mg "law" = some (.ref fa)) (c : SaysS fnL exL K)
    : ∃ fd : FuncData, (∀ (s : Shared) (v : Value), BindsTo s fd ⟨[v], []⟩ [("script", v)]) ∧ ∀ base : Heap, K.In base → base.Ns mainGlobals mg → FnOk P w K mg base (L2.CX P w) 14 fa fd ["script"] (SpD K fd_law) := by
  obtain ⟨fd_plus, F_plus⟩ := c.def_ 0 (d := dd_plus) rfl
  have F_plus : Fun K "plus" "plus" s_plus (He.ga K "plus") fd_plus := fun_of F_plus
  obtain ⟨fd_times, F_times⟩ := c.def_ 1 (d := dd_times) rfl
  have F_times : Fun K "times" "times" s_times (He.ga K "times") fd_times := fun_of F_times
  obtain ⟨fd_power, F_power⟩ := c.def_ 2 (d := dd_power) rfl
  have F_power : Fun K "power" "power" s_power (He.ga K "power") fd_power := fun_of F_power
  obtain ⟨fd_over, F_over⟩ := c.def_ 3 (d := dd_over) rfl
  have F_over : Fun K "over" "over" s_over (He.ga K "over") fd_over := fun_of F_over
  obtain ⟨fd_less, F_less⟩ := c.def_ 4 (d := dd_less) rfl
  have F_less : Fun K "less" "less" s_less (He.ga K "less") fd_less := fun_of F_less
  obtain ⟨fd_cleared, F_cleared⟩ := c.def_ 5 (d := dd_cleared) rfl
  have F_cleared : Fun K "cleared" "cleared" s_cleared (He.ga K "cleared") fd_cleared := fun_of F_cleared
  obtain ⟨fd_row_at, F_row_at⟩ := c.def_ 6 (d := dd_row_at) rfl
  have F_row_at : Fun K "row_at" "row_at" s_row_at (He.ga K "row_at") fd_row_at := fun_of F_row_at
  obtain ⟨fd_is_whole, F_is_whole⟩ := c.def_ 7 (d := dd_is_whole) rfl
  have F_is_whole : Fun K "is_whole" "is_whole" s_is_whole (He.ga K "is_whole") fd_is_whole := fun_of F_is_whole
  obtain ⟨fd_is_shape, F_is_shape⟩ := c.def_ 8 (d := dd_is_shape) rfl
  have F_is_shape : Fun K "is_shape" "is_shape" s_is_shape (He.ga K "is_shape") fd_is_shape := fun_of F_is_shape
  obtain ⟨fd_need_shape, F_need_shape⟩ := c.def_ 9 (d := dd_need_shape) rfl
  have F_need_shape : Fun K "need_shape" "need_shape" s_need_shape (He.ga K "need_shape") fd_need_shape := fun_of F_need_shape
  obtain ⟨fd_count, F_count⟩ := c.def_ 10 (d := dd_count) rfl
  have F_count : FunD K "count" "count" (defArgs s_count) (defBody s_count) (defScope s_count) [] [("shape", .ref (He.ga K "PLAIN"))] (He.ga K "count") fd_count := F_count
  obtain ⟨fd_is_place, F_is_place⟩ := c.def_ 11 (d := dd_is_place) rfl
  have F_is_place : Fun K "is_place" "is_place" s_is_place (He.ga K "is_place") fd_is_place := fun_of F_is_place
  obtain ⟨fd_need_places, F_need_places⟩ := c.def_ 12 (d := dd_need_places) rfl
  have F_need_places : Fun K "need_places" "need_places" s_need_places (He.ga K "need_places") fd_need_places := fun_of F_need_places
  obtain ⟨fd_data_places, F_data_places⟩ := c.def_ 13 (d := dd_data_places) rfl
  have F_data_places : FunD K "data_places" "data_places" (defArgs s_data_places) (defBody s_data_places) (defScope s_data_places) [] [("shape", .ref (He.ga K "PLAIN"))] (He.ga K "data_places") fd_data_places := F_data_places
  obtain ⟨fd_kind_of, F_kind_of⟩ := c.def_ 14 (d := dd_kind_of) rfl
  have F_kind_of : FunD K "kind_of" "kind_of" (defArgs s_kind_of) (defBody s_kind_of) (defScope s_kind_of) [] [("shape", .ref (He.ga K "PLAIN"))] (He.ga K "kind_of") fd_kind_of := F_kind_of
  obtain ⟨fd_mark, F_mark⟩ := c.def_ 15 (d := dd_mark) rfl
  have F_mark : FunD K "mark" "mark" (defArgs s_mark) (defBody s_mark) (defScope s_mark) [] [("shape", .ref (He.ga K "PLAIN"))] (He.ga K "mark") fd_mark := F_mark
  obtain ⟨fd_local_check, F_local_check⟩ := c.def_ 16 (d := dd_local_check) rfl
  have F_local_check : Fun K "local_check" "local_check" s_local_check (He.ga K "local_check") fd_local_check := fun_of F_local_check
  obtain ⟨fd_over_check, F_over_check⟩ := c.def_ 17 (d := dd_over_check) rfl
  have F_over_check : Fun K "over_check" "over_check" s_over_check (He.ga K "over_check") fd_over_check := fun_of F_over_check
  obtain ⟨fd_checks, F_checks⟩ := c.def_ 18 (d := dd_checks) rfl
  have F_checks : FunD K "checks" "checks" (defArgs s_checks) (defBody s_checks) (defScope s_checks) [] [("shape", .ref (He.ga K "PLAIN"))] (He.ga K "checks") fd_checks := F_checks
  obtain ⟨fd_filled, F_filled⟩ := c.def_ 19 (d := dd_filled) rfl
  have F_filled : Fun K "filled" "filled" s_filled (He.ga K "filled") fd_filled := fun_of F_filled
  obtain ⟨fd_unit_fillings, F_unit_fillings⟩ := c.def_ 20 (d := dd_unit_fillings) rfl
  have F_unit_fillings : Fun K "unit_fillings" "unit_fillings" s_unit_fillings (He.ga K "unit_fillings") fd_unit_fillings := fun_of F_unit_fillings
  obtain ⟨fd_checks_of, F_checks_of⟩ := c.def_ 21 (d := dd_checks_of) rfl
  have F_checks_of : Fun K "checks_of" "checks_of" s_checks_of (He.ga K "checks_of") fd_checks_of := fun_of F_checks_of
  obtain ⟨fd_ghost_of, F_ghost_of⟩ := c.def_ 22 (d := dd_ghost_of) rfl
  have F_ghost_of : Fun K "ghost_of" "ghost_of" s_ghost_of (He.ga K "ghost_of") fd_ghost_of := fun_of F_ghost_of
  obtain ⟨fd_Recipe_init, F_Recipe_init⟩ := c.def_ 23 (d := dd_Recipe_init) rfl
  have F_Recipe_init : Fun K "__init__" "Recipe.__init__" s_Recipe_init (He.ma K (He.ga K "Recipe") "__init__") fd_Recipe_init := fun_of F_Recipe_init
  have bb_Recipe_init : Binds K fd_Recipe_init ["self", "wanted", "reads", "factors"] [] := F_Recipe_init.binds (ps := ["self", "wanted", "reads", "factors"]) fun _ _ _ _ _ _ us hl => match us, hl with | [_, _, _, _], _ => rfl
  obtain ⟨fd_recipe_by, F_recipe_by⟩ := c.def_ 24 (d := dd_recipe_by) rfl
  have F_recipe_by : Fun K "recipe_by" "recipe_by" s_recipe_by (He.ga K "recipe_by") fd_recipe_by := fun_of F_recipe_by
  obtain ⟨fd_recipe, F_recipe⟩ := c.def_ 25 (d := dd_recipe) rfl
  have F_recipe : FunD K "recipe" "recipe" (defArgs s_recipe) (defBody s_recipe) (defScope s_recipe) [] [("shape", .ref (He.ga K "PLAIN"))] (He.ga K "recipe") fd_recipe := F_recipe
  obtain ⟨fd_recipes, F_recipes⟩ := c.def_ 26 (d := dd_recipes) rfl
  have F_recipes : FunD K "recipes" "recipes" (defArgs s_recipes) (defBody s_recipes) (defScope s_recipes) [] [("shape", .ref (He.ga K "PLAIN"))] (He.ga K "recipes") fd_recipes := F_recipes
  obtain ⟨fd__law_purse, F__law_purse⟩ := c.def_ 27 (d := dd__law_purse) rfl
  have F__law_purse : Fun K "_law_purse" "_law_purse" s__law_purse (He.ga K "_law_purse") fd__law_purse := fun_of F__law_purse
  obtain ⟨fd__law_drawn, F__law_drawn⟩ := c.def_ 28 (d := dd__law_drawn) rfl
  have F__law_drawn : Fun K "_law_drawn" "_law_drawn" s__law_drawn (He.ga K "_law_drawn") fd__law_drawn := fun_of F__law_drawn
  obtain ⟨fd__law_shape, F__law_shape⟩ := c.def_ 29 (d := dd__law_shape) rfl
  have F__law_shape : Fun K "_law_shape" "_law_shape" s__law_shape (He.ga K "_law_shape") fd__law_shape := fun_of F__law_shape
  obtain ⟨fd__law_filled, F__law_filled⟩ := c.def_ 30 (d := dd__law_filled) rfl
  have F__law_filled : Fun K "_law_filled" "_law_filled" s__law_filled (He.ga K "_law_filled") fd__law_filled := fun_of F__law_filled
  obtain ⟨fd__law_whole, F__law_whole⟩ := c.def_ 31 (d := dd__law_whole) rfl
  have F__law_whole : Fun K "_law_whole" "_law_whole" s__law_whole (He.ga K "_law_whole") fd__law_whole := fun_of F__law_whole
  obtain ⟨fd__law_same, F__law_same⟩ := c.def_ 32 (d := dd__law_same) rfl
  have F__law_same : Fun K "_law_same" "_law_same" s__law_same (He.ga K "_law_same") fd__law_same := fun_of F__law_same
  obtain ⟨fd__law_units, F__law_units⟩ := c.def_ 33 (d := dd__law_units) rfl
  have F__law_units : Fun K "_law_units" "_law_units" s__law_units (He.ga K "_law_units") fd__law_units := fun_of F__law_units
  obtain ⟨fd_Recipe_len, F_Recipe_len⟩ := c.def_ 34 (d := dd_Recipe_len) rfl
  have F_Recipe_len : Fun K "__len__" "Recipe.__len__" s_Recipe_len (He.ma K (He.ga K "Recipe") "__len__") fd_Recipe_len := fun_of F_Recipe_len
  have bb_Recipe_len : Binds K fd_Recipe_len ["self"] [] := F_Recipe_len.binds (ps := ["self"]) fun _ _ _ _ _ _ us hl => match us, hl with | [_], _ => rfl
  obtain ⟨fd__law_right, F__law_right⟩ := c.def_ 35 (d := dd__law_right) rfl
  have F__law_right : Fun K "_law_right" "_law_right" s__law_right (He.ga K "_law_right") fd__law_right := fun_of F__law_right
  obtain ⟨fd__law_recipe, F__law_recipe⟩ := c.def_ 36 (d := dd__law_recipe) rfl
  have F__law_recipe : Fun K "_law_recipe" "_law_recipe" s__law_recipe (He.ga K "_law_recipe") fd__law_recipe := fun_of F__law_recipe
  obtain ⟨fd__law_alone, F__law_alone⟩ := c.def_ 37 (d := dd__law_alone) rfl
  have F__law_alone : Fun K "_law_alone" "_law_alone" s__law_alone (He.ga K "_law_alone") fd__law_alone := fun_of F__law_alone
  obtain ⟨fd_Recipe_eq, F_Recipe_eq⟩ := c.def_ 38 (d := dd_Recipe_eq) rfl
  have F_Recipe_eq : Fun K "__eq__" "Recipe.__eq__" s_Recipe_eq (He.ma K (He.ga K "Recipe") "__eq__") fd_Recipe_eq := fun_of F_Recipe_eq
  have bb_Recipe_eq : Binds K fd_Recipe_eq ["self", "other"] [] := F_Recipe_eq.binds (ps := ["self", "other"]) fun _ _ _ _ _ _ us hl => match us, hl with | [_, _], _ => rfl
  obtain ⟨fd_law, F_law⟩ := c.def_ 39 (d := dd_law) rfl
  have FD_law : FunD K "law" "law" (defArgs s_law) (defBody s_law) (defScope s_law) [] [] (He.ga K "law") fd_law := F_law
  have F_law : Fun K "law" "law" s_law (He.ga K "law") fd_law := fun_of F_law
  have p_MARKS : ∀ H : Hp, Rp K H (.ref (He.ga K "MARKS")) (.tup (([1, 11, 40, 30] : List Int).map D.int)) := fun H => ktup_dv (c.fact 37 rfl) H
  have p_PLAIN : ∀ H : Hp, Rp K H (.ref (He.ga K "PLAIN")) (.tup (([2, 3, 2] : List Int).map D.int)) := fun H => ktup_dv (c.fact 39 rfl) H
  obtain ⟨t_PRIME, c_PRIME⟩ := He.int_ok X G (x := "PRIME") (i := 97) (c.fact 41 rfl)
  obtain ⟨t_MOST_SIZE, c_MOST_SIZE⟩ := He.int_ok X G (x := "MOST_SIZE") (i := 4) (c.fact 42 rfl)
  obtain ⟨t_MOST_SUMS, c_MOST_SUMS⟩ := He.int_ok X G (x := "MOST_SUMS") (i := 2) (c.fact 43 rfl)
  obtain ⟨fdI_Hidden, FI_Hidden⟩ := c.def_ 40 (d := dd_Hidden_init) rfl
  have FI_Hidden : Fun K "__init__" "Hidden.__init__" s_Hidden_init (He.ma K (He.ga K "Hidden") "__init__") fdI_Hidden := fun_of FI_Hidden
  obtain ⟨fdI_NoPlace, FI_NoPlace⟩ := c.def_ 41 (d := dd_NoPlace_init) rfl
  have FI_NoPlace : Fun K "__init__" "NoPlace.__init__" s_NoPlace_init (He.ma K (He.ga K "NoPlace") "__init__") fdI_NoPlace := fun_of FI_NoPlace
  obtain ⟨fdI_NoShape, FI_NoShape⟩ := c.def_ 42 (d := dd_NoShape_init) rfl
  have FI_NoShape : Fun K "__init__" "NoShape.__init__" s_NoShape_init (He.ma K (He.ga K "NoShape") "__init__") fdI_NoShape := fun_of FI_NoShape
  let T : Txt K mg := {
    f_plus := (He.ga K "plus"), fd_plus := fd_plus, F_plus := F_plus, g_plus := PySem.W.mg_of X G (c.eq 0 rfl), k_plus := F_plus.kp,
    b_plus := Kb.all (F_plus.binds (ps := ["one", "other"]) fun _ _ _ _ _ _ us hl => match us, hl with | [_, _], _ => rfl),
    f_times := (He.ga K "times"), fd_times := fd_times, F_times := F_times, g_times := PySem.W.mg_of X G (c.eq 1 rfl), k_times := F_times.kp,
    b_times := Kb.all (F_times.binds (ps := ["one", "other"]) fun _ _ _ _ _ _ us hl => match us, hl with | [_, _], _ => rfl),
    f_power := (He.ga K "power"), fd_power := fd_power, F_power := F_power, g_power := PySem.W.mg_of X G (c.eq 2 rfl), k_power := F_power.kp,
    b_power := Kb.all (F_power.binds (ps := ["one", "many"]) fun _ _ _ _ _ _ us hl => match us, hl with | [_, _], _ => rfl),
    f_over := (He.ga K "over"), fd_over := fd_over, F_over := F_over, g_over := PySem.W.mg_of X G (c.eq 3 rfl), k_over := F_over.kp,
    b_over := Kb.all (F_over.binds (ps := ["one", "other"]) fun _ _ _ _ _ _ us hl => match us, hl with | [_, _], _ => rfl),
    f_less := (He.ga K "less"), fd_less := fd_less, F_less := F_less, g_less := PySem.W.mg_of X G (c.eq 4 rfl), k_less := F_less.kp,
    b_less := Kb.all (F_less.binds (ps := ["row", "other", "factor"]) fun _ _ _ _ _ _ us hl => match us, hl with | [_, _, _], _ => rfl),
    f_cleared := (He.ga K "cleared"), fd_cleared := fd_cleared, F_cleared := F_cleared, g_cleared := PySem.W.mg_of X G (c.eq 5 rfl), k_cleared := F_cleared.kp,
    b_cleared := Kb.all (F_cleared.binds (ps := ["rows", "place"]) fun _ _ _ _ _ _ us hl => match us, hl with | [_, _], _ => rfl),
    f_row_at := (He.ga K "row_at"), fd_row_at := fd_row_at, F_row_at := F_row_at, g_row_at := PySem.W.mg_of X G (c.eq 6 rfl), k_row_at := F_row_at.kp,
    b_row_at := Kb.all (F_row_at.binds (ps := ["rows", "place"]) fun _ _ _ _ _ _ us hl => match us, hl with | [_, _], _ => rfl),
    f_is_whole := (He.ga K "is_whole"), fd_is_whole := fd_is_whole, F_is_whole := F_is_whole, g_is_whole := PySem.W.mg_of X G (c.eq 7 rfl), k_is_whole := F_is_whole.kp,
    b_is_whole := Kb.all (F_is_whole.binds (ps := ["thing"]) fun _ _ _ _ _ _ us hl => match us, hl with | [_], _ => rfl),
    f_is_shape := (He.ga K "is_shape"), fd_is_shape := fd_is_shape, F_is_shape := F_is_shape, g_is_shape := PySem.W.mg_of X G (c.eq 8 rfl), k_is_shape := F_is_shape.kp,
    b_is_shape := Kb.all (F_is_shape.binds (ps := ["thing"]) fun _ _ _ _ _ _ us hl => match us, hl with | [_], _ => rfl),
    f_need_shape := (He.ga K "need_shape"), fd_need_shape := fd_need_shape, F_need_shape := F_need_shape, g_need_shape := PySem.W.mg_of X G (c.eq 9 rfl), k_need_shape := F_need_shape.kp,
    b_need_shape := Kb.all (F_need_shape.binds (ps := ["thing"]) fun _ _ _ _ _ _ us hl => match us, hl with | [_], _ => rfl),
    f_count := (He.ga K "count"), fd_count := fd_count, F_count := F_count, g_count := PySem.W.mg_of X G (c.eq 10 rfl), k_count := F_count.kp,
    b_count_0_shape := Kb.kw F_count 0 ["shape"] (fun _ _ _ _ _ _ us ws h1 h2 => match us, ws, h1, h2 with | [], [_], _, _ => rfl),
    f_is_place := (He.ga K "is_place"), fd_is_place := fd_is_place, F_is_place := F_is_place, g_is_place := PySem.W.mg_of X G (c.eq 11 rfl), k_is_place := F_is_place.kp,
    b_is_place := Kb.all (F_is_place.binds (ps := ["thing", "shape"]) fun _ _ _ _ _ _ us hl => match us, hl with | [_, _], _ => rfl),
    f_need_places := (He.ga K "need_places"), fd_need_places := fd_need_places, F_need_places := F_need_places, g_need_places := PySem.W.mg_of X G (c.eq 12 rfl), k_need_places := F_need_places.kp,
    b_need_places := Kb.all (F_need_places.binds (ps := ["things", "shape"]) fun _ _ _ _ _ _ us hl => match us, hl with | [_, _], _ => rfl),
    f_data_places := (He.ga K "data_places"), fd_data_places := fd_data_places, F_data_places := F_data_places, g_data_places := PySem.W.mg_of X G (c.eq 13 rfl), k_data_places := F_data_places.kp,
    b_data_places_0_shape := Kb.kw F_data_places 0 ["shape"] (fun _ _ _ _ _ _ us ws h1 h2 => match us, ws, h1, h2 with | [], [_], _, _ => rfl),
    f_kind_of := (He.ga K "kind_of"), fd_kind_of := fd_kind_of, F_kind_of := F_kind_of, g_kind_of := PySem.W.mg_of X G (c.eq 14 rfl), k_kind_of := F_kind_of.kp,
    b_kind_of_1_shape := Kb.kw F_kind_of 1 ["shape"] (fun _ _ _ _ _ _ us ws h1 h2 => match us, ws, h1, h2 with | [_], [_], _, _ => rfl),
    f_mark := (He.ga K "mark"), fd_mark := fd_mark, F_mark := F_mark, g_mark := PySem.W.mg_of X G (c.eq 15 rfl), k_mark := F_mark.kp,
    b_mark_1_shape := Kb.kw F_mark 1 ["shape"] (fun _ _ _ _ _ _ us ws h1 h2 => match us, ws, h1, h2 with | [_], [_], _, _ => rfl),
    f_local_check := (He.ga K "local_check"), fd_local_check := fd_local_check, F_local_check := F_local_check, g_local_check := PySem.W.mg_of X G (c.eq 16 rfl), k_local_check := F_local_check.kp,
    b_local_check := Kb.all (F_local_check.binds (ps := ["group", "shape"]) fun _ _ _ _ _ _ us hl => match us, hl with | [_, _], _ => rfl),
    f_over_check := (He.ga K "over_check"), fd_over_check := fd_over_check, F_over_check := F_over_check, g_over_check := PySem.W.mg_of X G (c.eq 17 rfl), k_over_check := F_over_check.kp,
    b_over_check := Kb.all (F_over_check.binds (ps := ["number", "shape"]) fun _ _ _ _ _ _ us hl => match us, hl with | [_, _], _ => rfl),
    f_checks := (He.ga K "checks"), fd_checks := fd_checks, F_checks := F_checks, g_checks := PySem.W.mg_of X G (c.eq 18 rfl), k_checks := F_checks.kp,
    b_checks_0_shape := Kb.kw F_checks 0 ["shape"] (fun _ _ _ _ _ _ us ws h1 h2 => match us, ws, h1, h2 with | [], [_], _, _ => rfl),
    f_filled := (He.ga K "filled"), fd_filled := fd_filled, F_filled := F_filled, g_filled := PySem.W.mg_of X G (c.eq 19 rfl), k_filled := F_filled.kp,
    b_filled := Kb.all (F_filled.binds (ps := ["data", "shape"]) fun _ _ _ _ _ _ us hl => match us, hl with | [_, _], _ => rfl),
    f_unit_fillings := (He.ga K "unit_fillings"), fd_unit_fillings := fd_unit_fillings, F_unit_fillings := F_unit_fillings, g_unit_fillings := PySem.W.mg_of X G (c.eq 20 rfl), k_unit_fillings := F_unit_fillings.kp,
    b_unit_fillings := Kb.all (F_unit_fillings.binds (ps := ["shape"]) fun _ _ _ _ _ _ us hl => match us, hl with | [_], _ => rfl),
    f_checks_of := (He.ga K "checks_of"), fd_checks_of := fd_checks_of, F_checks_of := F_checks_of, g_checks_of := PySem.W.mg_of X G (c.eq 21 rfl), k_checks_of := F_checks_of.kp,
    b_checks_of := Kb.all (F_checks_of.binds (ps := ["left", "wanted", "shape"]) fun _ _ _ _ _ _ us hl => match us, hl with | [_, _, _], _ => rfl),
    f_ghost_of := (He.ga K "ghost_of"), fd_ghost_of := fd_ghost_of, F_ghost_of := F_ghost_of, g_ghost_of := PySem.W.mg_of X G (c.eq 22 rfl), k_ghost_of := F_ghost_of.kp,
    b_ghost_of := Kb.all (F_ghost_of.binds (ps := ["left", "wanted", "shape"]) fun _ _ _ _ _ _ us hl => match us, hl with | [_, _, _], _ => rfl),
    f_Recipe_init := (He.ma K (He.ga K "Recipe") "__init__"), fd_Recipe_init := fd_Recipe_init, F_Recipe_init := F_Recipe_init, b_Recipe_init := Kb.all bb_Recipe_init, bb_Recipe_init := bb_Recipe_init,
    f_recipe_by := (He.ga K "recipe_by"), fd_recipe_by := fd_recipe_by, F_recipe_by := F_recipe_by, g_recipe_by := PySem.W.mg_of X G (c.eq 23 rfl), k_recipe_by := F_recipe_by.kp,
    b_recipe_by := Kb.all (F_recipe_by.binds (ps := ["row", "wanted"]) fun _ _ _ _ _ _ us hl => match us, hl with | [_, _], _ => rfl),
    f_recipe := (He.ga K "recipe"), fd_recipe := fd_recipe, F_recipe := F_recipe, g_recipe := PySem.W.mg_of X G (c.eq 24 rfl), k_recipe := F_recipe.kp,
    b_recipe_2_shape := Kb.kw F_recipe 2 ["shape"] (fun _ _ _ _ _ _ us ws h1 h2 => match us, ws, h1, h2 with | [_, _], [_], _, _ => rfl),
    f_recipes := (He.ga K "recipes"), fd_recipes := fd_recipes, F_recipes := F_recipes, g_recipes := PySem.W.mg_of X G (c.eq 25 rfl), k_recipes := F_recipes.kp,
    b_recipes_1_shape := Kb.kw F_recipes 1 ["shape"] (fun _ _ _ _ _ _ us ws h1 h2 => match us, ws, h1, h2 with | [_], [_], _, _ => rfl),
    f__law_purse := (He.ga K "_law_purse"), fd__law_purse := fd__law_purse, F__law_purse := F__law_purse, g__law_purse := PySem.W.mg_of X G (c.eq 26 rfl), k__law_purse := F__law_purse.kp,
    b__law_purse := Kb.all (F__law_purse.binds (ps := ["script", "k"]) fun _ _ _ _ _ _ us hl => match us, hl with | [_, _], _ => rfl),
    f__law_drawn := (He.ga K "_law_drawn"), fd__law_drawn := fd__law_drawn, F__law_drawn := F__law_drawn, g__law_drawn := PySem.W.mg_of X G (c.eq 27 rfl), k__law_drawn := F__law_drawn.kp,
    b__law_drawn := Kb.all (F__law_drawn.binds (ps := ["purse", "many"]) fun _ _ _ _ _ _ us hl => match us, hl with | [_, _], _ => rfl),
    f__law_shape := (He.ga K "_law_shape"), fd__law_shape := fd__law_shape, F__law_shape := F__law_shape, g__law_shape := PySem.W.mg_of X G (c.eq 28 rfl), k__law_shape := F__law_shape.kp,
    b__law_shape := Kb.all (F__law_shape.binds (ps := ["purse", "most"]) fun _ _ _ _ _ _ us hl => match us, hl with | [_, _], _ => rfl),
    f__law_filled := (He.ga K "_law_filled"), fd__law_filled := fd__law_filled, F__law_filled := F__law_filled, g__law_filled := PySem.W.mg_of X G (c.eq 29 rfl), k__law_filled := F__law_filled.kp,
    b__law_filled := Kb.all (F__law_filled.binds (ps := ["mould", "data"]) fun _ _ _ _ _ _ us hl => match us, hl with | [_, _], _ => rfl),
    f__law_whole := (He.ga K "_law_whole"), fd__law_whole := fd__law_whole, F__law_whole := F__law_whole, g__law_whole := PySem.W.mg_of X G (c.eq 30 rfl), k__law_whole := F__law_whole.kp,
    b__law_whole := Kb.all (F__law_whole.binds (ps := ["found"]) fun _ _ _ _ _ _ us hl => match us, hl with | [_], _ => rfl),
    f__law_same := (He.ga K "_law_same"), fd__law_same := fd__law_same, F__law_same := F__law_same, g__law_same := PySem.W.mg_of X G (c.eq 31 rfl), k__law_same := F__law_same.kp,
    b__law_same := Kb.all (F__law_same.binds (ps := ["found", "due"]) fun _ _ _ _ _ _ us hl => match us, hl with | [_, _], _ => rfl),
    f__law_units := (He.ga K "_law_units"), fd__law_units := fd__law_units, F__law_units := F__law_units, g__law_units := PySem.W.mg_of X G (c.eq 32 rfl), k__law_units := F__law_units.kp,
    b__law_units := Kb.all (F__law_units.binds (ps := ["mould"]) fun _ _ _ _ _ _ us hl => match us, hl with | [_], _ => rfl),
    f_Recipe_len := (He.ma K (He.ga K "Recipe") "__len__"), fd_Recipe_len := fd_Recipe_len, F_Recipe_len := F_Recipe_len, b_Recipe_len := Kb.all bb_Recipe_len, bb_Recipe_len := bb_Recipe_len,
    f__law_right := (He.ga K "_law_right"), fd__law_right := fd__law_right, F__law_right := F__law_right, g__law_right := PySem.W.mg_of X G (c.eq 33 rfl), k__law_right := F__law_right.kp,
    b__law_right := Kb.all (F__law_right.binds (ps := ["found", "units", "left", "wanted"]) fun _ _ _ _ _ _ us hl => match us, hl with | [_, _, _, _], _ => rfl),
    f__law_recipe := (He.ga K "_law_recipe"), fd__law_recipe := fd__law_recipe, F__law_recipe := F__law_recipe, g__law_recipe := PySem.W.mg_of X G (c.eq 34 rfl), k__law_recipe := F__law_recipe.kp,
    b__law_recipe := Kb.all (F__law_recipe.binds (ps := ["left", "wanted", "mould"]) fun _ _ _ _ _ _ us hl => match us, hl with | [_, _, _], _ => rfl),
    f__law_alone := (He.ga K "_law_alone"), fd__law_alone := fd__law_alone, F__law_alone := F__law_alone, g__law_alone := PySem.W.mg_of X G (c.eq 35 rfl), k__law_alone := F__law_alone.kp,
    b__law_alone := Kb.all (F__law_alone.binds (ps := ["rest", "wanted", "spot"]) fun _ _ _ _ _ _ us hl => match us, hl with | [_, _, _], _ => rfl),
    f_Recipe_eq := (He.ma K (He.ga K "Recipe") "__eq__"), fd_Recipe_eq := fd_Recipe_eq, F_Recipe_eq := F_Recipe_eq, b_Recipe_eq := Kb.all bb_Recipe_eq, bb_Recipe_eq := bb_Recipe_eq,
    f_law := (He.ga K "law"), fd_law := fd_law, F_law := F_law, g_law := PySem.W.mg_of X G (c.eq 36 rfl), k_law := F_law.kp,
    b_law := Kb.all (F_law.binds (ps := ["script"]) fun _ _ _ _ _ _ us hl => match us, hl with | [_], _ => rfl),
    t_MARKS := (He.ga K "MARKS"), c_MARKS := PySem.W.mg_of X G (c.eq 38 rfl), p_MARKS := p_MARKS, q_MARKS := fun H => .cons (p_MARKS H) .nil,
    t_PLAIN := (He.ga K "PLAIN"), c_PLAIN := PySem.W.mg_of X G (c.eq 40 rfl), p_PLAIN := p_PLAIN, q_PLAIN := fun H => .cons (p_PLAIN H) .nil,
    t_PRIME := t_PRIME, c_PRIME := c_PRIME,
    t_MOST_SIZE := t_MOST_SIZE, c_MOST_SIZE := c_MOST_SIZE,
    t_MOST_SUMS := t_MOST_SUMS, c_MOST_SUMS := c_MOST_SUMS,
    t_Hidden := (He.ga K "Hidden"), g_Hidden := PySem.W.mg_of X G (c.eq 45 rfl), yN_Hidden := (c.eq 44 rfl),
    t_NoPlace := (He.ga K "NoPlace"), g_NoPlace := PySem.W.mg_of X G (c.eq 47 rfl), yN_NoPlace := (c.eq 46 rfl),
    t_NoShape := (He.ga K "NoShape"), g_NoShape := PySem.W.mg_of X G (c.eq 49 rfl), yN_NoShape := (c.eq 48 rfl),
    t_Recipe := (He.ga K "Recipe"), g_Recipe := PySem.W.mg_of X G (c.eq 59 rfl), yN_Recipe := (c.eq 58 rfl), in_Recipe := ⟨⟨(c.fact 50 rfl), (c.fact 51 rfl), (c.fact 52 rfl), (c.eq 53 rfl)⟩, (c.eq 54 rfl), (c.eq 55 rfl), (c.eq 56 rfl), (c.eq 57 rfl)⟩,
    mk_Recipe := ⟨(c.fact 60 rfl), (c.eq 61 rfl), (c.fact 62 rfl), (c.fact 63 rfl)⟩,
    na_Recipe_wanted := (c.eq 64 rfl),
    na_Recipe_reads := (c.eq 65 rfl),
    na_Recipe_factors := (c.eq 66 rfl),
    me_Recipe_init := ⟨(c.eq 67 rfl), (c.fact 68 rfl), (c.fact 69 rfl)⟩,
    me_Recipe_eq := ⟨(c.eq 70 rfl), (c.fact 71 rfl), (c.fact 72 rfl)⟩,
    me_Recipe_len := ⟨(c.eq 73 rfl), (c.fact 74 rfl), (c.fact 75 rfl)⟩,
    yk_Recipe_NoneType := (c.eq 76 rfl), yt_Recipe_NoneType := (c.eq 77 rfl), nf_Recipe_NoneType := (c.fact 78 rfl),
    yk_Recipe_bool := (c.eq 79 rfl), yt_Recipe_bool := (c.eq 80 rfl), nf_Recipe_bool := (c.fact 81 rfl),
    yk_Recipe_int := (c.eq 82 rfl), yt_Recipe_int := (c.eq 83 rfl), nf_Recipe_int := (c.fact 84 rfl),
    yk_Recipe_str := (c.eq 85 rfl), yt_Recipe_str := (c.eq 86 rfl), nf_Recipe_str := (c.fact 87 rfl),
    yk_Recipe_list := (c.eq 88 rfl), yt_Recipe_list := (c.eq 89 rfl), nf_Recipe_list := (c.fact 90 rfl),
    yk_Recipe_tuple := (c.eq 91 rfl), yt_Recipe_tuple := (c.eq 92 rfl), nf_Recipe_tuple := (c.fact 93 rfl),
    yk_Recipe_dict := (c.eq 94 rfl), yt_Recipe_dict := (c.eq 95 rfl), nf_Recipe_dict := (c.fact 96 rfl),
    y_Recipe_Recipe := (c.eq 97 rfl),
    fI_Hidden := (He.ma K (He.ga K "Hidden") "__init__"), fdI_Hidden := fdI_Hidden, o_Hidden := ⟨excB_ok (c.fact 99 rfl), (c.eq 100 rfl), (c.eq 98 rfl), (c.eq 101 rfl), (c.fact 102 rfl)⟩, e_Hidden := ⟨(c.eq 103 rfl), (c.eq 104 rfl), (c.eq 98 rfl), (c.fact 105 rfl), (c.eq 106 rfl), (c.eq 107 rfl), (c.eq 108 rfl), (c.eq 109 rfl)⟩, n_Hidden_place := (c.eq 111 rfl), n_Hidden_ghost := (c.eq 112 rfl), i_Hidden := (c.eq 113 rfl), tI_Hidden := (c.eq 114 rfl), FI_Hidden := FI_Hidden, bI_Hidden := FI_Hidden.binds (ps := ["self", "place", "ghost"]) fun _ _ _ _ _ _ us hl => match us, hl with | [_, _, _], _ => rfl,
    m_Hidden_Hidden := (c.eq 115 rfl),
    y_Hidden_Hidden := (c.eq 116 rfl),
    y_Hidden_NoPlace := (c.eq 117 rfl),
    y_Hidden_NoShape := (c.eq 118 rfl),
    fI_NoPlace := (He.ma K (He.ga K "NoPlace") "__init__"), fdI_NoPlace := fdI_NoPlace, o_NoPlace := ⟨excB_ok (c.fact 120 rfl), (c.eq 121 rfl), (c.eq 119 rfl), (c.eq 122 rfl), (c.fact 123 rfl)⟩, e_NoPlace := ⟨(c.eq 124 rfl), (c.eq 125 rfl), (c.eq 119 rfl), (c.fact 126 rfl), (c.eq 127 rfl), (c.eq 128 rfl), (c.eq 129 rfl), (c.eq 130 rfl)⟩, n_NoPlace := (c.eq 131 rfl), i_NoPlace := (c.eq 132 rfl), tI_NoPlace := (c.eq 133 rfl), FI_NoPlace := FI_NoPlace, bI_NoPlace := FI_NoPlace.binds (ps := ["self", "place"]) fun _ _ _ _ _ _ us hl => match us, hl with | [_, _], _ => rfl,
    m_NoPlace_Hidden := (c.eq 134 rfl),
    y_NoPlace_Hidden := (c.eq 135 rfl),
    y_NoPlace_NoPlace := (c.eq 136 rfl),
    y_NoPlace_NoShape := (c.eq 137 rfl),
    fI_NoShape := (He.ma K (He.ga K "NoShape") "__init__"), fdI_NoShape := fdI_NoShape, o_NoShape := ⟨excB_ok (c.fact 139 rfl), (c.eq 140 rfl), (c.eq 138 rfl), (c.eq 141 rfl), (c.fact 142 rfl)⟩, e_NoShape := ⟨(c.eq 143 rfl), (c.eq 144 rfl), (c.eq 138 rfl), (c.fact 145 rfl), (c.eq 146 rfl), (c.eq 147 rfl), (c.eq 148 rfl), (c.eq 149 rfl)⟩, n_NoShape := (c.eq 150 rfl), i_NoShape := (c.eq 151 rfl), tI_NoShape := (c.eq 152 rfl), FI_NoShape := FI_NoShape, bI_NoShape := FI_NoShape.binds (ps := ["self", "shape"]) fun _ _ _ _ _ _ us hl => match us, hl with | [_, _], _ => rfl,
    m_NoShape_Hidden := (c.eq 153 rfl),
    y_NoShape_Hidden := (c.eq 154 rfl),
    y_NoShape_NoPlace := (c.eq 155 rfl),
    y_NoShape_NoShape := (c.eq 156 rfl),
    b_all := PySem.W.mg_none_of X G (c.eq 157 rfl),
    b_bool := PySem.W.mg_none_of X G (c.eq 158 rfl),
    b_divmod := PySem.W.mg_none_of X G (c.eq 159 rfl),
    b_enumerate := PySem.W.mg_none_of X G (c.eq 160 rfl),
    b_int := PySem.W.mg_none_of X G (c.eq 161 rfl),
    b_isinstance := PySem.W.mg_none_of X G (c.eq 162 rfl),
    b_len := PySem.W.mg_none_of X G (c.eq 163 rfl),
    b_list := PySem.W.mg_none_of X G (c.eq 164 rfl),
    b_max := PySem.W.mg_none_of X G (c.eq 165 rfl),
    b_min := PySem.W.mg_none_of X G (c.eq 166 rfl),
    b_range := PySem.W.mg_none_of X G (c.eq 167 rfl),
    b_set := PySem.W.mg_none_of X G (c.eq 168 rfl),
    b_sorted := PySem.W.mg_none_of X G (c.eq 169 rfl),
    b_sum := PySem.W.mg_none_of X G (c.eq 170 rfl),
    b_tuple := PySem.W.mg_none_of X G (c.eq 171 rfl),
    b_zip := PySem.W.mg_none_of X G (c.eq 172 rfl) }
  have e := hfa.symm.trans T.g_law
  cases e
  have b := FunD.bindsA (ps := ["script"]) FD_law fun _ _ _ _ _ _ us hl => match us, hl with | [_], _ => rfl
  exact ⟨fd_law, fun s v => b s [v] rfl, fun base _ _ => ok_law T⟩
end Lw
open PySem PySem.W PyProof.Rows
set_option maxRecDepth 100000 in
set_option maxHeartbeats 0 in
theorem PySem.Challenge.cw_sherdhall_k14_the_rest_of_a_group_holds : PySem.Challenge.rw_sherdhall_k14_the_rest_of_a_group.Holds := by
  w_on; o_law
  refine HandSHeadRun.head_any (r := OpenLaw.row PySem.Challenge.rw_sherdhall_k14_the_rest_of_a_group) (q := view (OpenLaw.row PySem.Challenge.rw_sherdhall_k14_the_rest_of_a_group).prog [53]) (H := Lw.hkL) (ob := Lw.obL) (M := 40000) (loose := Lw.loL) (d := HandSHeadRun.topDef (OpenLaw.row PySem.Challenge.rw_sherdhall_k14_the_rest_of_a_group).prog 53) (kwd := []) Lw.obL_eq
    (by kernel_rfl) (fun s => by kernel_rfl) Lw.runL (by kernel_rfl) (by kernel_rfl) (by kernel_rfl) (by rfl) (by first | assumption | decide +kernel) (by decide +kernel) ⟨rfl, rfl, rfl, rfl, rfl, by decide +kernel⟩ ?hw ?hc
  case hw => w_witness2
  case hc =>
    refine Sh.walk_ofY (l := PySem.Challenge.rw_sherdhall_k14_the_rest_of_a_group) (n := 63) (k := 14) (x := "script") (CX := fun w => L2.CX PySem.Challenge.rw_sherdhall_k14_the_rest_of_a_group.prog w) rfl (by decide) (by kernel_rfl) ⟨rfl, by decide, by decide⟩ ?F (fun w H s e s' h => Sh.law_cx h)
    intro w mg fa h Y G hmg0
    obtain ⟨K, KX, c⟩ := Y
    have hmg : mg ("law" : PySem.Str) = some (.ref fa) := by
      have e : (HandSHeadRun.topDef (OpenLaw.row PySem.Challenge.rw_sherdhall_k14_the_rest_of_a_group).prog 53).name = ("law" : PySem.Str) := by kernel_rfl
      rw [← e]
      exact hmg0
    obtain ⟨fd, hb, hF⟩ := Lw.all_mk (P := (PySem.Challenge.rw_sherdhall_k14_the_rest_of_a_group).prog) (w := w) KX G hmg c
    exact ⟨K, fd, Sh.SpD K Lw.fd_law, KX, hb, fun H a ns hl hbt hO hS => Sh.law_in rfl (fun ns _ _ => Lw.dom_law ns) Lw.cost_law (fun _ _ q => q) (fun _ _ _ q => q) hl hbt hO hS, hF⟩

