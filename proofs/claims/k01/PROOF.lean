import PyProof.Rows.All
import Wide.All
import OpenK.AllK
import Wide.FinOn
import HandS.ForMost
import HandS.Exc
import HandS.Wide
import HandS.WideBits
import HandS.Defaults
import HandS.ExcOwn
import HandS.IsInst
import HandS.EndBits
import HandS.Deep
import HandS.Zip
import HandS.TupAny
import KE.KUnpackStar
import KE.KTupSum
import HandS.Conv
import HandS.Flow
import HandS.Style
import HandS.TryOnly
import HandS.DictComp
import HandS.ExcInit
import HandS.ExcIs
import HandS.ExcField
import KE.KExcIs
import PySem.Challenge.RW_sherdhall_k01_numbers_by_97
set_option Elab.async false
set_option linter.all false
set_option maxRecDepth 100000
set_option autoImplicit false
/-! Sh1: data trees, what a value stands for, the state of a def by data. -/
namespace Sh
open PySem PySem.Spec PyProof.Rows L2

inductive D where
  | non | bl (b : Bool) | int (i : Int) | str (s : Str)
  | lst (xs : List D) | tup (xs : List D)
  | dct (kvs : List (Key × D)) | dtt (kvs : List (List Key × D))
  | ins (C : Addr) (fs : List (Str × D)) | exc (C : Addr) (fs : List (Str × D))
  | purse | scr (ns : List Int) | ref (a : Addr) | ty (n : String)

/-- the three numbers of a source of draws -/
def PGood (n : Nat) (x y z : Int) : Prop := 0 ≤ z ∧ z ≤ n ∧ y.natAbs < 2 ^ 256
def PurseO (a : Addr) (n : Nat) : HO := .ext fun h => ∃ x y z : Int, PGood n x y z ∧ ∃ (its : List Value) (m : Nat), Vals [.int x, .int y, .int z] its ∧ h.get? a = some { cls := .type "list", data := .seq its.toArray m }
theorem purse_ext (a : Addr) (n : Nat) : ∃ φ, PurseO a n = .ext φ := ⟨_, rfl⟩

/-- the script: read alone -/
def ScrL (K : PySem.W.Frag) (H : Hp) (a : Addr) (xs : List V) : Prop := (∃ o, H a = some (.frz o (.lst xs))) ∨
    ∃ (o : Obj) (its : Array Value) (n : Nat), K.lookup a = some o ∧ o.cls = .type "list" ∧ o.dict = none ∧ o.data = .seq its n ∧ its.size ≤ sizeLine ∧ Vals xs its.toList
theorem ScrL.sq {K : PySem.W.Frag} {H : Hp} {a : Addr} {xs : List V} (h : ScrL K H a xs) : SqL K H a xs := by
  rcases h with h | h
  · exact .inl (.inr h)
  · exact .inr h
mutual
inductive Rp (K : PySem.W.Frag) (H : Hp) : V → D → Prop
  | non : Rp K H .non .non
  | bl (b : Bool) : Rp K H (.bl b) (.bl b)
  | int (i : Int) : Rp K H (.int i) (.int i)
  | str (s : Str) : Rp K H (.str s) (.str s)
  | lst {a : Addr} {vs : List V} {ds : List D} : H a = some (.lst vs) → RpA K H vs ds → Rp K H (.ref a) (.lst ds)
  | scr {a : Addr} {ns : List Int} : ScrL K H a (ns.map V.int) → Rp K H (.ref a) (.scr ns)
  | tup {a : Addr} {vs : List V} {ds : List D} : SqT K H a vs → RpA K H vs ds → Rp K H (.ref a) (.tup ds)
  | dct {a : Addr} {kvs : List (Key × V)} {kds : List (Key × D)} : H a = some (.dK kvs) → RpK K H kvs kds → Rp K H (.ref a) (.dct kds)
  | dtt {a : Addr} {kvs : List (List Key × V)} {kds : List (List Key × D)} : H a = some (.dT kvs) → RpT K H kvs kds → Rp K H (.ref a) (.dtt kds)
  | ins {a C dx : Addr} {fs : List (Str × V)} {ds : List (Str × D)} : H a = some (.ins C dx fs) → RpF K H fs ds → Rp K H (.ref a) (.ins C ds)
  | exc {a C dd : Addr} {oe : Obj} {u : HO} {fs : List (Str × V)} {ds : List (Str × D)} : H a = some (.frz oe u) → Zc (.ref C) (some dd) oe → (∃ vs, oe.data = .fields vs) → H dd = some (.xd fs) → RpF K H fs ds → Rp K H (.ref a) (.exc C ds)
  | purse {a : Addr} {n : Nat} : H a = some (PurseO a n) → Rp K H (.ref a) .purse
  | ref (a : Addr) : Rp K H (.ref a) (.ref a)
  | ty (n : String) : Rp K H (.ty n) (.ty n)
inductive RpA (K : PySem.W.Frag) (H : Hp) : List V → List D → Prop
  | nil : RpA K H [] []
  | cons {v : V} {d : D} {vs : List V} {ds : List D} : Rp K H v d → RpA K H vs ds → RpA K H (v :: vs) (d :: ds)
inductive RpK (K : PySem.W.Frag) (H : Hp) : List (Key × V) → List (Key × D) → Prop
  | nil : RpK K H [] []
  | cons {k : Key} {v : V} {d : D} {vs : List (Key × V)} {ds : List (Key × D)} : Rp K H v d → RpK K H vs ds → RpK K H ((k, v) :: vs) ((k, d) :: ds)
inductive RpT (K : PySem.W.Frag) (H : Hp) : List (List Key × V) → List (List Key × D) → Prop
  | nil : RpT K H [] []
  | cons {k : List Key} {v : V} {d : D} {vs : List (List Key × V)} {ds : List (List Key × D)} : Rp K H v d → RpT K H vs ds → RpT K H ((k, v) :: vs) ((k, d) :: ds)
inductive RpF (K : PySem.W.Frag) (H : Hp) : List (Str × V) → List (Str × D) → Prop
  | nil : RpF K H [] []
  | cons {k : Str} {v : V} {d : D} {vs : List (Str × V)} {ds : List (Str × D)} : Rp K H v d → RpF K H vs ds → RpF K H ((k, v) :: vs) ((k, d) :: ds)
end

/-- all that is known but sources of draws stays; these stay such -/
structure Kp (H H' : Hp) : Prop where
  keep : ∀ a o, H a = some o → (∀ φ, o ≠ .ext φ) → H' a = some o
  pz : ∀ a n, H a = some (PurseO a n) → ∃ m, H' a = some (PurseO a m)
theorem Kp.refl (H : Hp) : Kp H H := ⟨fun _ _ h _ => h, fun a n h => ⟨n, h⟩⟩
theorem Kp.trans {H H1 H2 : Hp} (a : Kp H H1) (b : Kp H1 H2) : Kp H H2 :=
  ⟨fun x o h n => b.keep x o (a.keep x o h n) n, fun x n h => let ⟨_, q⟩ := a.pz x n h; b.pz x _ q⟩
theorem Kp.sub {H H' : Hp} (h : ∀ a o, H a = some o → H' a = some o) : Kp H H' := ⟨fun a o e _ => h a o e, fun a n e => ⟨n, h a _ e⟩⟩
theorem Kp.seqL {K : PySem.W.Frag} {H H' : Hp} {a : Addr} {vs : List V} (e : Kp H H') (h : SqL K H a vs) : SqL K H' a vs := by
  rcases h with (h | ⟨o, h⟩) | h
  · exact .inl (.inl (e.keep _ _ h fun _ z => nomatch z))
  · exact .inl (.inr ⟨o, e.keep _ _ h fun _ z => nomatch z⟩)
  · exact .inr h
theorem Kp.seqT {K : PySem.W.Frag} {H H' : Hp} {a : Addr} {vs : List V} (e : Kp H H') (h : SqT K H a vs) : SqT K H' a vs := by
  rcases h with (h | ⟨o, h⟩) | h
  · exact .inl (.inl (e.keep _ _ h fun _ z => nomatch z))
  · exact .inl (.inr ⟨o, e.keep _ _ h fun _ z => nomatch z⟩)
  · exact .inr h
theorem Kp.scr {K : PySem.W.Frag} {H H' : Hp} {a : Addr} {vs : List V} (e : Kp H H') (h : ScrL K H a vs) : ScrL K H' a vs := by
  rcases h with ⟨o, h⟩ | h
  · exact .inl ⟨o, e.keep _ _ h fun _ z => nomatch z⟩
  · exact .inr h
section
variable {K : PySem.W.Frag} {H H' : Hp}
mutual
theorem Rp.mono (e : Kp H H') : ∀ {v : V} {d : D}, Rp K H v d → Rp K H' v d
  | _, _, .non => .non
  | _, _, .bl b => .bl b
  | _, _, .int i => .int i
  | _, _, .str i => .str i
  | _, _, .lst h q => .lst (e.keep _ _ h fun _ z => nomatch z) (RpA.mono e q)
  | _, _, .scr h => .scr (e.scr h)
  | _, _, .tup h q => .tup (e.seqT h) (RpA.mono e q)
  | _, _, .dct h q => .dct (e.keep _ _ h fun _ z => nomatch z) (RpK.mono e q)
  | _, _, .dtt h q => .dtt (e.keep _ _ h fun _ z => nomatch z) (RpT.mono e q)
  | _, _, .ins h q => .ins (e.keep _ _ h fun _ z => nomatch z) (RpF.mono e q)
  | _, _, .exc h z d x q => .exc (e.keep _ _ h fun _ z => nomatch z) z d (e.keep _ _ x fun _ z => nomatch z) (RpF.mono e q)
  | _, _, .purse h => let ⟨_, q⟩ := e.pz _ _ h; .purse q
  | _, _, .ref a => .ref a
  | _, _, .ty a => .ty a
theorem RpA.mono (e : Kp H H') : ∀ {v : List V} {d : List D}, RpA K H v d → RpA K H' v d
  | _, _, .nil => .nil
  | _, _, .cons h q => .cons (Rp.mono e h) (RpA.mono e q)
theorem RpK.mono (e : Kp H H') : ∀ {v : List (Key × V)} {d : List (Key × D)}, RpK K H v d → RpK K H' v d
  | _, _, .nil => .nil
  | _, _, .cons h q => .cons (Rp.mono e h) (RpK.mono e q)
theorem RpT.mono (e : Kp H H') : ∀ {v : List (List Key × V)} {d : List (List Key × D)}, RpT K H v d → RpT K H' v d
  | _, _, .nil => .nil
  | _, _, .cons h q => .cons (Rp.mono e h) (RpT.mono e q)
theorem RpF.mono (e : Kp H H') : ∀ {v : List (Str × V)} {d : List (Str × D)}, RpF K H v d → RpF K H' v d
  | _, _, .nil => .nil
  | _, _, .cons h q => .cons (Rp.mono e h) (RpF.mono e q)
end
end
theorem RpA.length {K : PySem.W.Frag} {H : Hp} : ∀ {vs : List V} {ds : List D}, RpA K H vs ds → vs.length = ds.length
  | _, _, .nil => rfl
  | _, _, .cons _ q => congrArg (· + 1) (RpA.length q)
theorem RpA.get {K : PySem.W.Frag} {H : Hp} : ∀ {vs : List V} {ds : List D} {i : Nat} {v : V}, RpA K H vs ds → vs[i]? = some v → ∃ d, ds[i]? = some d ∧ Rp K H v d
  | _, _, i, v, .nil, h => by simp at h
  | _, _, 0, v, .cons p q, h => by simp at h; subst h; exact ⟨_, rfl, p⟩
  | _, _, i + 1, v, .cons p q, h => by
    obtain ⟨d, e, r⟩ := RpA.get (i := i) (v := v) q (by simpa using h)
    exact ⟨d, by simpa using e, r⟩
theorem RpA.getD {K : PySem.W.Frag} {H : Hp} : ∀ {vs : List V} {ds : List D} {i : Nat} {d : D}, RpA K H vs ds → ds[i]? = some d → ∃ v, vs[i]? = some v ∧ Rp K H v d
  | _, _, i, v, .nil, h => by simp at h
  | _, _, 0, v, .cons p q, h => by simp at h; subst h; exact ⟨_, rfl, p⟩
  | _, _, i + 1, v, .cons p q, h => by
    obtain ⟨d, e, r⟩ := RpA.getD (i := i) (d := v) q (by simpa using h)
    exact ⟨d, by simpa using e, r⟩
theorem RpA.append {K : PySem.W.Frag} {H : Hp} : ∀ {vs ws : List V} {ds es : List D}, RpA K H vs ds → RpA K H ws es → RpA K H (vs ++ ws) (ds ++ es)
  | _, _, _, _, .nil, r => r
  | _, _, _, _, .cons p q, r => .cons p (RpA.append q r)
theorem RpA.take {K : PySem.W.Frag} {H : Hp} : ∀ {vs : List V} {ds : List D} (n : Nat), RpA K H vs ds → RpA K H (vs.take n) (ds.take n)
  | _, _, 0, _ => .nil
  | _, _, _ + 1, .nil => .nil
  | _, _, n + 1, .cons p q => .cons p (RpA.take n q)
theorem RpA.drop {K : PySem.W.Frag} {H : Hp} : ∀ {vs : List V} {ds : List D} (n : Nat), RpA K H vs ds → RpA K H (vs.drop n) (ds.drop n)
  | _, _, 0, r => r
  | _, _, _ + 1, .nil => .nil
  | _, _, n + 1, .cons p q => RpA.drop n q
theorem RpA.set {K : PySem.W.Frag} {H : Hp} {x : V} {y : D} (h : Rp K H x y) : ∀ {vs : List V} {ds : List D} (n : Nat), RpA K H vs ds → RpA K H (vs.set n x) (ds.set n y)
  | _, _, _, .nil => .nil
  | _, _, 0, .cons p q => .cons h q
  | _, _, n + 1, .cons p q => .cons p (RpA.set h n q)
theorem RpA.ints {K : PySem.W.Frag} {H : Hp} : ∀ {vs : List V} {ns : List Int}, RpA K H vs (ns.map D.int) → vs = ns.map V.int
  | _, [], .nil => rfl
  | _, n :: ns, .cons p q => by
    cases p
    rw [List.map_cons, RpA.ints q]
theorem RpA.of_ints {K : PySem.W.Frag} {H : Hp} : ∀ {ns : List Int}, RpA K H (ns.map V.int) (ns.map D.int)
  | [] => .nil
  | n :: ns => .cons (.int n) RpA.of_ints
theorem RpA.bools {K : PySem.W.Frag} {H : Hp} : ∀ {vs : List V} {ns : List Bool}, RpA K H vs (ns.map D.bl) → vs = ns.map V.bl
  | _, [], .nil => rfl
  | _, n :: ns, .cons p q => by
    cases p
    rw [List.map_cons, RpA.bools q]
theorem RpA.strs {K : PySem.W.Frag} {H : Hp} : ∀ {vs : List V} {ns : List Str}, RpA K H vs (ns.map D.str) → vs = ns.map V.str
  | _, [], .nil => rfl
  | _, n :: ns, .cons p q => by
    cases p
    rw [List.map_cons, RpA.strs q]

/-! ### masks -/
open Classical in
noncomputable def msk (M : Addr → Prop) (H : Hp) : Hp := fun a => if M a then none else H a
theorem msk_of {M : Addr → Prop} {H : Hp} {a : Addr} {o : HO} (h : msk M H a = some o) : ¬ M a ∧ H a = some o := by
  unfold msk at h
  split at h
  · cases h
  · exact ⟨by assumption, h⟩
theorem msk_no {M : Addr → Prop} {H : Hp} {a : Addr} (h : ¬ M a) : msk M H a = H a := by
  unfold msk
  rw [if_neg h]
theorem msk_mono {M : Addr → Prop} {H H' : Hp} (e : Kp H H') : Kp (msk M H) (msk M H') :=
  ⟨fun a o h n => by
    obtain ⟨h1, h2⟩ := msk_of h
    rw [msk_no h1]
    exact e.keep a o h2 n, fun a n h => by
    obtain ⟨h1, h2⟩ := msk_of h
    obtain ⟨m, q⟩ := e.pz a n h2
    exact ⟨m, by rw [msk_no h1]; exact q⟩⟩
theorem msk_sub {M M' : Addr → Prop} {H : Hp} (e : ∀ a, M a → M' a) : Kp (msk M' H) (msk M H) := Kp.sub fun a o h => by
  obtain ⟨h1, h2⟩ := msk_of h
  rw [msk_no fun z => h1 (e a z)]
  exact h2
theorem msk_all {M : Addr → Prop} {H : Hp} : Kp (msk M H) H := Kp.sub fun a o h => (msk_of h).2
/-- a change at a masked place -/
theorem msk_upd {M : Addr → Prop} {H : Hp} {a : Addr} {o : HO} (h : M a) : msk M (upd H a o) = msk M H := by
  funext b
  unfold msk
  by_cases hb : M b
  · rw [if_pos hb, if_pos hb]
  · rw [if_neg hb, if_neg hb, upd_ne (fun z => hb (by rw [z]; exact h))]

/-! ### sources of draws, how often they may be asked -/
def LIM : Nat := 2 ^ 60
def Pz (n : Nat) (H : Hp) : Prop := ∀ a φ, H a = some (.ext φ) → ∃ m, m ≤ n ∧ HO.ext φ = PurseO a m
def Lim (b : Nat) (H : Hp) : Prop := ∃ n, Pz n H ∧ n + b ≤ LIM
theorem Lim.mono {b b' : Nat} {H : Hp} (h : Lim b H) (hb : b' ≤ b) : Lim b' H := let ⟨n, p, q⟩ := h; ⟨n, p, by omega⟩
theorem Pz.upd {n : Nat} {H : Hp} {a : Addr} {o : HO} (h : Pz n H) (ho : ∀ φ, o ≠ .ext φ) : Pz n (upd H a o) := fun b φ e => by
  by_cases hb : b = a
  · subst hb
    rw [upd_same] at e
    exact absurd (Option.some.inj e) (ho φ)
  · rw [upd_ne hb] at e
    exact h b φ e
theorem Lim.upd {b : Nat} {H : Hp} {a : Addr} {o : HO} (h : Lim b H) (ho : ∀ φ, o ≠ .ext φ) : Lim b (upd H a o) := let ⟨n, p, q⟩ := h; ⟨n, p.upd ho, q⟩

/-- what a call leaves -/
structure Ext (H H' : Hp) : Prop extends Kp H H' where
  dom : ∀ a, H a ≠ none → H' a ≠ none
theorem Ext.refl (H : Hp) : Ext H H := ⟨Kp.refl H, fun _ h => h⟩
theorem Ext.trans {H H1 H2 : Hp} (a : Ext H H1) (b : Ext H1 H2) : Ext H H2 := ⟨a.toKp.trans b.toKp, fun x h => b.dom x (a.dom x h)⟩
theorem Ext.free {H H' : Hp} (e : Ext H H') {a : Addr} (h : H' a = none) : H a = none := by
  cases q : H a with
  | none => rfl
  | some o => exact absurd h (e.dom a (by rw [q]; exact fun z => nomatch z))
theorem Ext.new {H : Hp} {p : Addr} {o : HO} (h : H p = none) : Ext H (upd H p o) := ⟨Kp.sub fun a u e => by
    rw [upd_ne (ne_of_none e h)]
    exact e, fun a ha => by
    by_cases hb : a = p
    · rw [hb] at ha
      exact absurd h ha
    · rw [upd_ne hb]
      exact ha⟩
/-- what the entry did not know may change -/
theorem Ext.mut {H H' : Hp} {p : Addr} {o : HO} (e : Ext H H') (h : H p = none) : Ext H (upd H' p o) := ⟨⟨fun a u ha n => by
    rw [upd_ne (ne_of_none ha h)]
    exact e.keep a u ha n, fun a n ha => by
    rw [upd_ne (ne_of_none ha h)]
    exact e.pz a n ha⟩, fun a ha => by
    by_cases hb : a = p
    · rw [hb] at ha
      exact absurd h ha
    · rw [upd_ne hb]
      exact e.dom a ha⟩

/-! ### slots by data -/
inductive Sd where
  | un | dat (d : D) | own (ds : List D) | owd (kvs : List (Key × D)) | par (a : Addr) (ds : List D)
def isOwn : Sd → Bool
  | .own _ => true
  | .owd _ => true
  | .par _ _ => true
  | _ => false
def SlOk (K : PySem.W.Frag) (M : Addr → Prop) (H : Hp) (s : Option V) : Sd → Prop
  | .un => True
  | .dat d => ∃ v, s = some v ∧ Rp K (msk M H) v d
  | .own ds => ∃ a vs, s = some (.ref a) ∧ M a ∧ H a = some (.lst vs) ∧ RpA K (msk M H) vs ds
  | .par a ds => ∃ vs, s = some (.ref a) ∧ M a ∧ H a = some (.lst vs) ∧ RpA K (msk M H) vs ds
  | .owd kds => ∃ a kvs, s = some (.ref a) ∧ M a ∧ H a = some (.dK kvs) ∧ RpK K (msk M H) kvs kds
/-- the state of a def at H: entered at H0 with the mask M0; M: what may not be handed on; b: how many draws are left -/
structure Stt (K : PySem.W.Frag) (H0 : Hp) (M0 : Addr → Prop) (gs : List (V × D)) (M : Addr → Prop) (b : Nat) (H : Hp) (σ : List (Option V)) (ds : List Sd) : Prop where
  ext : Ext H0 H
  m0 : ∀ a, M0 a → M a
  new : ∀ a, M a → ¬ M0 a → H0 a = none
  liv : ∀ a, M a → H a ≠ none
  lim : Lim b H
  len : σ.length = ds.length
  sl : ∀ (i : Nat) (s : Option V) (d : Sd), σ[i]? = some s → ds[i]? = some d → SlOk K M H s d
  inj : ∀ (i j : Nat) (a : Addr) (d e : Sd), σ[i]? = some (some (.ref a)) → σ[j]? = some (some (.ref a)) → ds[i]? = some d → ds[j]? = some e → isOwn d = true → isOwn e = true → i = j
  ownNew : ∀ (i : Nat) (a : Addr) (d : Sd), σ[i]? = some (some (.ref a)) → ds[i]? = some d → isOwn d = true → ¬ M0 a
  gh : ∀ q ∈ gs, Rp K (msk M H) q.1 q.2
section
variable {K : PySem.W.Frag} {H0 H H' : Hp} {M0 M : Addr → Prop} {b b' : Nat} {σ : List (Option V)} {ds : List Sd} {gs : List (V × D)}
theorem SlOk.mono {s : Option V} {d : Sd} (e : Kp H H') (h : SlOk K M H s d) : SlOk K M H' s d := by
  cases d with
  | un => trivial
  | dat d => obtain ⟨v, h1, h2⟩ := h; exact ⟨v, h1, h2.mono (msk_mono e)⟩
  | own ds => obtain ⟨a, vs, h1, h2, h3, h4⟩ := h; exact ⟨a, vs, h1, h2, e.keep _ _ h3 (fun _ z => nomatch z), h4.mono (msk_mono e)⟩
  | owd ds => obtain ⟨a, vs, h1, h2, h3, h4⟩ := h; exact ⟨a, vs, h1, h2, e.keep _ _ h3 (fun _ z => nomatch z), h4.mono (msk_mono e)⟩
  | par a ds => obtain ⟨vs, h1, h2, h3, h4⟩ := h; exact ⟨vs, h1, h2, e.keep _ _ h3 (fun _ z => nomatch z), h4.mono (msk_mono e)⟩
/-- behind an expression -/
theorem Stt.step (S : Stt K H0 M0 gs M b H σ ds) (e : Ext H H') (l : Lim b' H') : Stt K H0 M0 gs M b' H' σ ds :=
  ⟨S.ext.trans e, S.m0, S.new, fun a h => e.dom a (S.liv a h), l, S.len, fun i s d h1 h2 => (S.sl i s d h1 h2).mono e.toKp, S.inj, S.ownNew, fun q hq => (S.gh q hq).mono (msk_mono e.toKp)⟩
theorem Stt.weak (S : Stt K H0 M0 gs M b H σ ds) (h : b' ≤ b) : Stt K H0 M0 gs M b' H σ ds := S.step (Ext.refl H) (S.lim.mono h)
theorem Stt.var (S : Stt K H0 M0 gs M b H σ ds) {i : Nat} {d : D} (h : ds[i]? = some (.dat d)) : ∃ v, σ[i]? = some (some v) ∧ Rp K (msk M H) v d := by
  have hi : i < σ.length := by
    rw [S.len]
    exact (List.getElem?_eq_some_iff.mp h).1
  obtain ⟨v, e, r⟩ := S.sl i _ _ (List.getElem?_eq_getElem hi) h
  exact ⟨v, by rw [List.getElem?_eq_getElem hi, e], r⟩
theorem Stt.ownL (S : Stt K H0 M0 gs M b H σ ds) {i : Nat} {xs : List D} (h : ds[i]? = some (.own xs)) : ∃ a vs, σ[i]? = some (some (.ref a)) ∧ M a ∧ H a = some (.lst vs) ∧ RpA K (msk M H) vs xs ∧ ¬ M0 a := by
  have hi : i < σ.length := by
    rw [S.len]
    exact (List.getElem?_eq_some_iff.mp h).1
  obtain ⟨a, vs, e, m, ha, r⟩ := S.sl i _ _ (List.getElem?_eq_getElem hi) h
  have es : σ[i]? = some (some (.ref a)) := by rw [List.getElem?_eq_getElem hi, e]
  exact ⟨a, vs, es, m, ha, r, S.ownNew i a _ es h rfl⟩
theorem Stt.parL (S : Stt K H0 M0 gs M b H σ ds) {i : Nat} {a : Addr} {xs : List D} (h : ds[i]? = some (.par a xs)) : ∃ vs, σ[i]? = some (some (.ref a)) ∧ M a ∧ H a = some (.lst vs) ∧ RpA K (msk M H) vs xs ∧ ¬ M0 a := by
  have hi : i < σ.length := by
    rw [S.len]
    exact (List.getElem?_eq_some_iff.mp h).1
  obtain ⟨vs, e, m, ha, r⟩ := S.sl i _ _ (List.getElem?_eq_getElem hi) h
  have es : σ[i]? = some (some (.ref a)) := by rw [List.getElem?_eq_getElem hi, e]
  exact ⟨vs, es, m, ha, r, S.ownNew i a _ es h rfl⟩
/-- a slot gets data -/
theorem Stt.set (S : Stt K H0 M0 gs M b H σ ds) {i : Nat} {v : V} {d : D} (r : Rp K (msk M H) v d) : Stt K H0 M0 gs M b H (σ.set i (some v)) (ds.set i (.dat d)) := by
  refine ⟨S.ext, S.m0, S.new, S.liv, S.lim, by rw [List.length_set, List.length_set, S.len], fun j s e h1 h2 => ?_, fun j k a e f h1 h2 h3 h4 h5 h6 => ?_, fun j a e h1 h2 h3 => ?_, S.gh⟩
  · by_cases hj : i = j
    · subst hj
      have hi : i < σ.length := by simpa using (List.getElem?_eq_some_iff.mp h1).1
      rw [List.getElem?_set_self hi] at h1
      rw [List.getElem?_set_self (by rw [← S.len]; exact hi)] at h2
      cases h1
      cases h2
      exact ⟨v, rfl, r⟩
    · rw [List.getElem?_set_ne hj] at h1 h2
      exact S.sl j s e h1 h2
  · have nj : i ≠ j := fun z => by
      subst z
      have hi : i < ds.length := by simpa using (List.getElem?_eq_some_iff.mp h3).1
      rw [List.getElem?_set_self hi] at h3
      cases h3
      cases h5
    have nk : i ≠ k := fun z => by
      subst z
      have hi : i < ds.length := by simpa using (List.getElem?_eq_some_iff.mp h4).1
      rw [List.getElem?_set_self hi] at h4
      cases h4
      cases h6
    rw [List.getElem?_set_ne nj] at h1 h3
    rw [List.getElem?_set_ne nk] at h2 h4
    exact S.inj j k a e f h1 h2 h3 h4 h5 h6
  · have nj : i ≠ j := fun z => by
      subst z
      have hi : i < ds.length := by simpa using (List.getElem?_eq_some_iff.mp h2).1
      rw [List.getElem?_set_self hi] at h2
      cases h2
      cases h3
    rw [List.getElem?_set_ne nj] at h1 h2
    exact S.ownNew j a e h1 h2 h3
/-- a slot is forgotten -/
theorem Stt.forget (S : Stt K H0 M0 gs M b H σ ds) (i : Nat) (s : Option V) : Stt K H0 M0 gs M b H (σ.set i s) (ds.set i .un) := by
  refine ⟨S.ext, S.m0, S.new, S.liv, S.lim, by rw [List.length_set, List.length_set, S.len], fun j s' e h1 h2 => ?_, fun j k a e f h1 h2 h3 h4 h5 h6 => ?_, fun j a e h1 h2 h3 => ?_, S.gh⟩
  · by_cases hj : i = j
    · subst hj
      have hi : i < ds.length := by simpa using (List.getElem?_eq_some_iff.mp h2).1
      rw [List.getElem?_set_self hi] at h2
      cases h2
      trivial
    · rw [List.getElem?_set_ne hj] at h1 h2
      exact S.sl j s' e h1 h2
  · have nj : i ≠ j := fun z => by
      subst z
      have hi : i < ds.length := by simpa using (List.getElem?_eq_some_iff.mp h3).1
      rw [List.getElem?_set_self hi] at h3
      cases h3
      cases h5
    have nk : i ≠ k := fun z => by
      subst z
      have hi : i < ds.length := by simpa using (List.getElem?_eq_some_iff.mp h4).1
      rw [List.getElem?_set_self hi] at h4
      cases h4
      cases h6
    rw [List.getElem?_set_ne nj] at h1 h3
    rw [List.getElem?_set_ne nk] at h2 h4
    exact S.inj j k a e f h1 h2 h3 h4 h5 h6
  · have nj : i ≠ j := fun z => by
      subst z
      have hi : i < ds.length := by simpa using (List.getElem?_eq_some_iff.mp h2).1
      rw [List.getElem?_set_self hi] at h2
      cases h2
      cases h3
    rw [List.getElem?_set_ne nj] at h1 h2
    exact S.ownNew j a e h1 h2 h3
end
end Sh

/-! Sh2: further rules over HandS: powers of great numbers, calls with keywords whose errors are wished for at the slots, operators of several kinds at once. -/
namespace Sh
open PySem PySem.Spec PyProof.Rows L2

/-! ### arithmetic of any size -/
def CPowW (i j : Int) : Prop := 0 ≤ j ∧ (Builtin.Int.intBits i : Int) * j ≤ 2 ^ 27
section
variable {X : Cx}
theorem op_powW : OpR X (binaryOp .Pow) (rI CPowW fun i j => .int (i ^ j.toNat)) := opI fun _ _ _ _ _ _ _ hc q => pow_int hc.1 hc.2 q
theorem op_and' {r : R2} {f : Value → Value → Sem Value} (h : OpR X f r) : OpR X f r := h
end

/-! ### calls -/
/-- how n positional values and keywords ks are bound -/
structure Kb (K : PySem.W.Frag) (fd : FuncData) (ps : List Str) (n : Nat) (ks : List Str) (gV : List V → List V → List V) : Prop where
  to : ∀ (s : Shared) (us ws : List Value) (vs zs : List V), K.In s.heap → Vals vs us → Vals zs ws → vs.length = n → zs.length = ks.length → ∃ xs, Vals (gV vs zs) xs ∧ BindsTo s fd ⟨us, ks.zip ws⟩ (ps.zip xs)
def tCl (n m : Nat) (sp : Sp) (gV : List V → List V → List V) (E : L2.St → XK) (t tk : TA) : TE := fun σ H Q => t σ H fun vs H1 => tk σ H1 fun zs H2 => vs.length = n ∧ zs.length = m ∧ sp (gV vs zs) H2 Q (E σ)
section
variable {X : Cx} {CX : CXT} {k n m : Nat} {f : Addr} {fd : FuncData} {ps ks : List Str} {sp : Sp} {E : L2.St → XK} {x : Str} {p pos : Pos} {e : Expr} {es : List Expr} {kws : List Keyword} {t tk : TA} {gV : List V → List V → List V}
theorem run_cl {pins : List (Addr × Obj)} {σ : L2.St} {H : Hp} {s : Shared} {Q : VK} {us ws : List Value} {vs zs : List V} (F : FnOk X.prog X.w X.K X.mg X.base CX k f fd ps sp) (hr : Room k X.A) (hb : Kb X.K fd ps n ks gV) (hx : PassesAt CX X σ (E σ))
    (I : Inv X pins σ H s) (r : Vals vs us) (rz : Vals zs ws) (l1 : vs.length = n) (l2 : zs.length = ks.length) (h : sp (gV vs zs) H Q (E σ)) : wpAny (model X.prog X.w) X.A (call (.ref f) us (ks.zip ws)) (EP X pins σ Q) X.xe s := by
  obtain ⟨xs, r2, b⟩ := hb.to s us ws vs zs I.kIn r rz l1 l2
  refine wpAny_call (codeAny_mono (F.run X.A X.stack s H ⟨us, ks.zip ws⟩ xs (gV vs zs) Q (E σ) hr I.env0 b r2 h) fun r s' hq => ?_)
  cases r with
  | error e => exact hx pins H s e s' I hq
  | ok fl =>
    cases fl with
    | ret u => exact I.after hq
    | next => exact False.elim hq
    | brk => exact False.elim hq
    | cont => exact False.elim hq
/-- f(e, .., k = v, ..) -/
theorem pe_cl (F : FnOk X.prog X.w X.K X.mg X.base CX k f fd ps sp) (hr : Room k X.A) (hg : Gl X x) (hm : X.mg x = some (.ref f)) (hk : PySem.W.keepIn X.K (.ref f) = true) (hb : Kb X.K fd ps n ks gV) (hx : ∀ σ, PassesAt CX X σ (E σ))
    (ha : PA X (e :: es) t) (hkw : PK X kws tk) (hmm : ks.length = m := by rfl) (hall : (backToKw pos (keywordEach kws X.env)).all (·.1.isSome) = true := by rfl) (hks : (backToKw pos (keywordEach kws X.env)).filterMap (·.1) = ks := by rfl)
    (hdb : (x == ("__debug__" : Str)) = false := by decide) (he : starEach (e :: es) X.env = (false, eval e X.env) :: starEach es X.env := by rfl)
    (hpl : ((backTo pos (starEach (e :: es) X.env)).any (·.1) || (backToKw pos (keywordEach kws X.env)).any (·.1.isNone)) = false := by rfl) :
    PE X (.Call (.Name x p) (e :: es) kws pos) (tCl n m sp gV E t tk) := by
  refine ⟨fun pins s σ H Q I h => ?_⟩
  refine wpAny_Call_Name_kw (ld_glob I hg hm ?_ hdb)
  refine PySem.W.callWith_KW (h₀ := X.base) I.ok.mod.kin hk hall (thn (ha.run pos pins s σ H _ I h) fun us s1 ⟨vs, H1, I1, r, q⟩ => ?_) hpl he
  refine thn (hkw.run pos pins s1 σ H1 _ I1 q) fun ws s2 ⟨zs, H2, I2, rz, l1, l2, q2⟩ => ⟨I2.kIn, ?_⟩
  rw [hks]
  exact run_cl F hr hb (hx σ) I2 r rz l1 (l2.trans hmm.symm) q2
/-- f(k = v, ..), f() -/
theorem pe_cl0 (F : FnOk X.prog X.w X.K X.mg X.base CX k f fd ps sp) (hr : Room k X.A) (hg : Gl X x) (hm : X.mg x = some (.ref f)) (hk : PySem.W.keepIn X.K (.ref f) = true) (hb : Kb X.K fd ps 0 ks gV) (hx : ∀ σ, PassesAt CX X σ (E σ))
    (hkw : PK X kws tk) (hmm : ks.length = m := by rfl) (hall : (backToKw pos (keywordEach kws X.env)).all (·.1.isSome) = true := by rfl) (hks : (backToKw pos (keywordEach kws X.env)).filterMap (·.1) = ks := by rfl)
    (hdb : (x == ("__debug__" : Str)) = false := by decide)
    (hpl : ((backTo pos (starEach [] X.env)).any (·.1) || (backToKw pos (keywordEach kws X.env)).any (·.1.isNone)) = false := by rfl) :
    PE X (.Call (.Name x p) [] kws pos) (tCl 0 m sp gV E tNil tk) := by
  refine ⟨fun pins s σ H Q I h => ?_⟩
  refine wpAny_Call_Name_kw (ld_glob I hg hm ?_ hdb)
  refine PySem.W.callWith_KW0 (h₀ := X.base) I.ok.mod.kin hk hall ?_ hpl
  refine thn (hkw.run pos pins s σ H _ I h) fun ws s2 ⟨zs, H2, I2, rz, l1, l2, q2⟩ => ⟨I2.kIn, ?_⟩
  rw [hks]
  exact run_cl (us := []) (vs := []) F hr hb (hx σ) I2 .nil rz rfl (l2.trans hmm.symm) q2
/-- every parameter is written, no keywords -/
theorem Kb.all {K : PySem.W.Frag} {fd : FuncData} {ps : List Str} (b : Binds K fd ps []) : Kb K fd ps ps.length [] (fun vs _ => vs) := ⟨fun s us ws vs zs X r rz l1 l2 => by
  cases zs with
  | cons _ _ => cases l2
  | nil =>
    cases rz
    have h := b s us X (by rw [List.append_nil, ← r.length, l1])
    rw [List.append_nil] at h
    exact ⟨us, r, h⟩⟩
end

/-! ### errors -/
/-- what is raised goes on as the def's own wish says -/
abbrev WD (E : XK) : WX := fun cls d _ H => E cls d H
theorem passD {X : Cx} {W : WX} (tk : Takes X W) : ∀ σ, PassesAt (L2.CX X.prog X.w) X σ (WE W σ) := fun σ => passAt tk σ
theorem pass_never {X : Cx} : ∀ σ : L2.St, PassesAt (L2.CX X.prog X.w) X σ (fun _ _ _ => False) := fun σ pins H s e s' I c => by
  obtain ⟨a, B, H', cls, d, h1, h2, h3, h4, h5, h6, h7, h8⟩ := c
  exact h8.elim
end Sh

/-! Sh3: what readings do, by data. -/
namespace Sh
open PySem PySem.Spec PyProof.Rows L2

/-- where a def runs: entered at H0, M0 masked; W what is wished for errors, X which errors are allowed where -/
structure Gx where
  K : PySem.W.Frag
  H0 : Hp
  M0 : Addr → Prop
  W : WX
  X : Addr → List (Str × D) → List Sd → Nat → Prop
  pm : Bool := false
abbrev Gx.st (G : Gx) (gs : List (V × D)) (M : Addr → Prop) (b : Nat) (H : Hp) (σ : List (Option V)) (ds : List Sd) : Prop := Stt G.K G.H0 G.M0 gs M b H σ ds
/-- p: what comes may be kept; else it may be handed back alone -/
def mmk (p : Bool) (M M0 : Addr → Prop) : Addr → Prop := match p with
  | true => M
  | false => M0
/-- the errors that X allows are wished for -/
def Gx.Acc (G : Gx) : Prop := ∀ (gs : List (V × D)) (M : Addr → Prop) (b : Nat) (H : Hp) (σ : List (Option V)) (ds : List Sd) (C dd : Addr) (fsV : List (Str × V)) (fs : List (Str × D)),
  G.st gs M b H σ ds → H dd = some (.xd fsV) → G.H0 dd = none → ¬ M dd → RpF G.K (msk (mmk G.pm M G.M0) H) fsV fs → G.X C fs ds b → G.W (.ref C) (some dd) σ H

def EvS (G : Gx) (p : Bool) (b b' : Nat) (te : TE) (ds : List Sd) (R : D → Prop) : Prop :=
  ∀ gs M H σ, G.st gs M b H σ ds → ∀ Q : VK, (∀ v d H', R d → Ext H H' → Lim b' H' → Rp G.K (msk (mmk p M G.M0) H') v d → Q v H') → te σ H Q
def EvA (G : Gx) (p : Bool) (b b' : Nat) (ta : TA) (ds : List Sd) (R : List D → Prop) : Prop :=
  ∀ gs M H σ, G.st gs M b H σ ds → ∀ Q : List V → Hp → Prop, (∀ vs es H', R es → Ext H H' → Lim b' H' → RpA G.K (msk (mmk p M G.M0) H') vs es → Q vs H') → ta σ H Q
def EvT (G : Gx) (b b' : Nat) (tt : TT) (ds : List Sd) (R : Bool → Prop) : Prop :=
  ∀ gs M H σ, G.st gs M b H σ ds → ∀ Q : Bool → Hp → Prop, (∀ c H', R c → Ext H H' → Lim b' H' → Q c H') → tt σ H Q
/-- one value -/
abbrev EvD (G : Gx) (p : Bool) (b b' : Nat) (te : TE) (ds : List Sd) (d : D) : Prop := EvS G p b b' te ds (fun x => x = d)
abbrev EaD (G : Gx) (p : Bool) (b b' : Nat) (ta : TA) (ds : List Sd) (es : List D) : Prop := EvA G p b b' ta ds (fun x => x = es)
abbrev EtD (G : Gx) (b b' : Nat) (tt : TT) (ds : List Sd) (c : Bool) : Prop := EvT G b b' tt ds (fun x => x = c)

/-- by values: two, some -/
def Op2 (K : PySem.W.Frag) (r : R2) (x y : D) (R : D → Prop) : Prop := ∀ (N : Addr → Prop) (b : Nat) (H : Hp) (v u : V) (Q : VK), (∀ a, N a → H a ≠ none) → Lim b H → Rp K (msk N H) v x → Rp K (msk N H) u y →
  (∀ z d H', R d → Ext H H' → Lim b H' → Rp K (msk N H') z d → Q z H') → r v u H Q
abbrev Op2D (K : PySem.W.Frag) (r : R2) (x y z : D) : Prop := Op2 K r x y (fun d => d = z)
def Op1 (K : PySem.W.Frag) (r : V → Hp → VK → Prop) (x : D) (R : D → Prop) : Prop := ∀ (N : Addr → Prop) (b : Nat) (H : Hp) (v : V) (Q : VK), (∀ a, N a → H a ≠ none) → Lim b H → Rp K (msk N H) v x →
  (∀ z d H', R d → Ext H H' → Lim b H' → Rp K (msk N H') z d → Q z H') → r v H Q
abbrev Op1D (K : PySem.W.Frag) (r : V → Hp → VK → Prop) (x z : D) : Prop := Op1 K r x (fun d => d = z)
def ClA (K : PySem.W.Frag) (r : List V → Hp → VK → Prop) (xs : List D) (R : D → Prop) : Prop := ∀ (N : Addr → Prop) (b : Nat) (H : Hp) (vs : List V) (Q : VK), (∀ a, N a → H a ≠ none) → Lim b H → RpA K (msk N H) vs xs →
  (∀ z d H', R d → Ext H H' → Lim b H' → Rp K (msk N H') z d → Q z H') → r vs H Q
abbrev ClD (K : PySem.W.Frag) (r : List V → Hp → VK → Prop) (xs : List D) (z : D) : Prop := ClA K r xs (fun d => d = z)

section
variable {K : PySem.W.Frag} {H0 H H' : Hp} {M0 M : Addr → Prop} {b b' : Nat} {σ : List (Option V)} {ds : List Sd} {gs : List (V × D)}
theorem Stt.mm (S : Stt K H0 M0 gs M b H σ ds) (p : Bool) : ∀ a, mmk p M M0 a → H a ≠ none := fun a h => by
  cases p with
  | true => exact S.liv a h
  | false => exact S.liv a (S.m0 a h)
theorem Stt.mmW (S : Stt K H0 M0 gs M b H σ ds) {p : Bool} {v : V} {d : D} (h : Rp K (msk M H) v d) : Rp K (msk (mmk p M M0) H) v d := by
  cases p with
  | true => exact h
  | false => exact h.mono (msk_sub S.m0)
/-- something new -/
theorem msk_new {N : Addr → Prop} {p : Addr} {o : HO} (hN : ∀ a, N a → H a ≠ none) (h : H p = none) : msk N (upd H p o) p = some o := by
  rw [msk_no fun z => hN p z h]
  exact upd_same
theorem new_lst {N : Addr → Prop} {p : Addr} {vs : List V} {xs : List D} (hN : ∀ a, N a → H a ≠ none) (h : H p = none) (r : RpA K (msk N H) vs xs) : Rp K (msk N (upd H p (.lst vs))) (.ref p) (.lst xs) :=
  .lst (msk_new hN h) (r.mono (msk_mono (Ext.new h).toKp))
theorem new_tup {N : Addr → Prop} {p : Addr} {vs : List V} {xs : List D} (hN : ∀ a, N a → H a ≠ none) (h : H p = none) (r : RpA K (msk N H) vs xs) : Rp K (msk N (upd H p (.tup vs))) (.ref p) (.tup xs) :=
  .tup (.inl (.inl (msk_new hN h))) (r.mono (msk_mono (Ext.new h).toKp))
theorem sqt_unm {N : Addr → Prop} {a : Addr} {vs : List V} (h : SqT K (msk N H) a vs) : SqT K H a vs := msk_all.seqT h
theorem sql_unm {N : Addr → Prop} {a : Addr} {vs : List V} (h : SqL K (msk N H) a vs) : SqL K H a vs := msk_all.seqL h
/-- what is no object is kept anywhere -/
def flatD : D → Bool
  | .non => true
  | .bl _ => true
  | .int _ => true
  | .str _ => true
  | .ty _ => true
  | .ref _ => true
  | _ => false
theorem Rp.flat {H H' : Hp} {v : V} {d : D} (h : Rp K H v d) (f : flatD d = true) : Rp K H' v d := by
  cases h with
  | non => exact .non
  | bl b => exact .bl b
  | int b => exact .int b
  | str b => exact .str b
  | ref b => exact .ref b
  | ty b => exact .ty b
  | _ => cases f
end

section
variable {G : Gx} {p q : Bool} {b b' b1 b2 : Nat} {te ta tb : TE} {tt tu : TT} {t tk : TA} {ds : List Sd} {R R1 R3 : D → Prop} {R2' : D → D → Prop} {d x y z : D} {r : R2}

/-! ### turning judgements -/
theorem EvS.imp (h : EvS G p b b' te ds R) (i : ∀ d, R d → R1 d) : EvS G p b b' te ds R1 := fun gs M H σ S Q k => h gs M H σ S Q fun v d H' r => k v d H' (i d r)
theorem EvD.to (h : EvD G p b b' te ds d) (i : R d) : EvS G p b b' te ds R := h.imp fun x e => by rw [e]; exact i
theorem EvD.eq (h : EvD G p b b' te ds d) (e : d = x) : EvD G p b b' te ds x := by rw [← e]; exact h
theorem EvT.eq {c c' : Bool} (h : EtD G b b' tt ds c) (e : c = c') : EtD G b b' tt ds c' := by rw [← e]; exact h
/-- what may be kept may be handed back -/
theorem EvS.wk (h : EvS G true b b' te ds R) : EvS G p b b' te ds R := fun gs M H σ S Q k => h gs M H σ S Q fun v d H' r e l rp => by
  refine k v d H' r e l ?_
  cases p with
  | true => exact rp
  | false => exact rp.mono (msk_sub S.m0)
/-- no object: it may be kept -/
theorem EvS.flat (h : EvS G q b b' te ds R) (f : ∀ d, R d → flatD d = true) : EvS G p b b' te ds R := fun gs M H σ S Q k => h gs M H σ S Q fun v d H' r e l rp => k v d H' r e l (rp.flat (f d r))
theorem EvD.flat (h : EvD G false b b' te ds d) (f : flatD d = true) : EvD G p b b' te ds d := EvS.flat h fun x e => by rw [e]; exact f
theorem EvS.less (h : EvS G p b b1 te ds R) (e : b' ≤ b1) : EvS G p b b' te ds R := fun gs M H σ S Q k => h gs M H σ S Q fun v d H' r x l => k v d H' r x (l.mono e)

/-! ### names, constants -/
theorem ev_var {i : Nat} (h : ds[i]? = some (.dat d)) : EvD G p b b (tVar i) ds d := fun gs M H σ S Q k => by
  obtain ⟨v, e, r⟩ := S.var h
  exact ⟨v, e, k v d H rfl (Ext.refl H) S.lim (S.mmW r)⟩
/-- a list of our own, asked but not kept -/
theorem ev_own {i : Nat} {xs : List D} (h : ds[i]? = some (.own xs)) : EvD G false b b (tVar i) ds (.lst xs) := fun gs M H σ S Q k => by
  obtain ⟨a, vs, e, m, ha, r, n0⟩ := S.ownL h
  refine ⟨.ref a, e, k _ _ H rfl (Ext.refl H) S.lim ?_⟩
  refine .lst ?_ (r.mono (msk_sub S.m0))
  show msk G.M0 H a = some (.lst vs)
  rw [msk_no n0]
  exact ha
/-- a list that was handed in to be changed -/
theorem ev_par {i : Nat} {a : Addr} {xs : List D} (h : ds[i]? = some (.par a xs)) : EvD G false b b (tVar i) ds (.lst xs) := fun gs M H σ S Q k => by
  obtain ⟨vs, e, m, ha, r, n0⟩ := S.parL h
  refine ⟨.ref a, e, k _ _ H rfl (Ext.refl H) S.lim ?_⟩
  refine .lst ?_ (r.mono (msk_sub S.m0))
  show msk G.M0 H a = some (.lst vs)
  rw [msk_no n0]
  exact ha
theorem ev_int {i : Int} : EvD G p b b (tC (.int i)) ds (.int i) := fun gs M H σ S Q k => k _ _ H rfl (Ext.refl H) S.lim (.int i)
theorem ev_bl {i : Bool} : EvD G p b b (tC (.bl i)) ds (.bl i) := fun gs M H σ S Q k => k _ _ H rfl (Ext.refl H) S.lim (.bl i)
theorem ev_non : EvD G p b b (tC .non) ds .non := fun gs M H σ S Q k => k _ _ H rfl (Ext.refl H) S.lim .non
theorem ev_str {i : Str} : EvD G p b b (tC (.str i)) ds (.str i) := fun gs M H σ S Q k => k _ _ H rfl (Ext.refl H) S.lim (.str i)
/-- a constant of the module: a tuple of the written part -/
theorem ev_ktup {a : Addr} {xs : List D} (h : ∀ H : Hp, Rp G.K H (.ref a) (.tup xs)) : EvD G p b b (tC (.ref a)) ds (.tup xs) := fun gs M H σ S Q k => k _ _ H rfl (Ext.refl H) S.lim (h _)
theorem ev_ref {a : Addr} : EvD G p b b (tC (.ref a)) ds (.ref a) := fun gs M H σ S Q k => k _ _ H rfl (Ext.refl H) S.lim (.ref a)

/-! ### operators -/
theorem evs_op (h1 : EvS G p b b1 ta ds R1) (h2 : ∀ x, R1 x → EvS G p b1 b2 tb ds (R2' x)) (h3 : ∀ x y, R1 x → R2' x y → Op2 G.K r x y R) : EvS G p b b2 (tOp r ta tb) ds R := fun gs M H σ S Q k =>
  h1 gs M H σ S _ fun v x H1 rx e1 l1 rp1 => h2 x rx gs M H1 σ (S.step e1 l1) _ fun u y H2 ry e2 l2 rp2 => by
    have S2 := (S.step e1 l1).step e2 l2
    exact h3 x y rx ry (mmk p M G.M0) b2 H2 v u Q (S2.mm p) l2 (rp1.mono (msk_mono e2.toKp)) rp2 fun z d H3 rd e3 l3 rp3 => k z d H3 rd ((e1.trans e2).trans e3) l3 rp3
theorem ev_op (h1 : EvD G p b b1 ta ds x) (h2 : EvD G p b1 b2 tb ds y) (h3 : Op2D G.K r x y z) : EvD G p b b2 (tOp r ta tb) ds z :=
  evs_op h1 (fun _ _ => h2) fun _ _ e1 e2 => by rw [e1, e2]; exact h3
theorem evs_un {r : V → Hp → VK → Prop} (h1 : EvS G p b b1 ta ds R1) (h3 : ∀ x, R1 x → Op1 G.K r x R) : EvS G p b b1 (tUn r ta) ds R := fun gs M H σ S Q k =>
  h1 gs M H σ S _ fun v x H1 rx e1 l1 rp1 => h3 x rx (mmk p M G.M0) b1 H1 v Q ((S.step e1 l1).mm p) l1 rp1 fun z d H3 rd e3 l3 rp3 => k z d H3 rd (e1.trans e3) l3 rp3
theorem ev_un {r : V → Hp → VK → Prop} (h1 : EvD G p b b1 ta ds x) (h3 : Op1D G.K r x z) : EvD G p b b1 (tUn r ta) ds z := evs_un h1 fun _ e => by rw [e]; exact h3

/-! ### argument lists, displays -/
theorem ea_nil : EaD G p b b tNil ds [] := fun gs M H σ S Q k => k [] [] H rfl (Ext.refl H) S.lim .nil
theorem eas_cons {R1 : D → Prop} {R2 : D → List D → Prop} (h1 : EvS G p b b1 te ds R1) (h2 : ∀ x, R1 x → EvA G p b1 b2 t ds (R2 x)) : EvA G p b b2 (tCons te t) ds (fun es => ∃ x r, es = x :: r ∧ R1 x ∧ R2 x r) := fun gs M H σ S Q k =>
  h1 gs M H σ S _ fun v x H1 rx e1 l1 rp1 => h2 x rx gs M H1 σ (S.step e1 l1) _ fun vs es H2 ry e2 l2 rp2 => k (v :: vs) (x :: es) H2 ⟨x, es, rfl, rx, ry⟩ (e1.trans e2) l2 (.cons (rp1.mono (msk_mono e2.toKp)) rp2)
theorem ea_cons {es : List D} (h1 : EvD G p b b1 te ds x) (h2 : EaD G p b1 b2 t ds es) : EaD G p b b2 (tCons te t) ds (x :: es) := fun gs M H σ S Q k =>
  eas_cons (R2 := fun _ r => r = es) h1 (fun _ _ => h2) gs M H σ S Q fun vs fs H' ⟨y, r, e, e1, e2⟩ => by
    subst e1 e2 e
    exact k vs _ H' rfl
theorem EaD.eq {es fs : List D} (h : EaD G p b b' t ds es) (e : es = fs) : EaD G p b b' t ds fs := by rw [← e]; exact h
theorem evs_lst {R1 : List D → Prop} (h : EvA G p b b' t ds R1) (hl : ∀ es, R1 es → es.length ≤ 100000) : EvS G p b b' (tLst t) ds (fun d => ∃ es, d = .lst es ∧ R1 es) := fun gs M H σ S Q k =>
  h gs M H σ S _ fun vs es H1 r1 e1 l1 rp => ⟨by rw [rp.length]; exact Nat.le_trans (hl es r1) (by decide), fun a ha => k _ _ _ ⟨es, rfl, r1⟩ (e1.trans (Ext.new ha)) (l1.upd fun _ z => nomatch z) (new_lst ((S.step e1 l1).mm p) ha rp)⟩
theorem ev_lst {es : List D} (h : EaD G p b b' t ds es) (hl : es.length ≤ 100000 := by decide) : EvD G p b b' (tLst t) ds (.lst es) :=
  (evs_lst h fun fs e => by rw [e]; exact hl).imp fun d ⟨fs, e1, e2⟩ => by rw [e1, e2]
theorem evs_tup {R1 : List D → Prop} (h : EvA G p b b' t ds R1) (hl : ∀ es, R1 es → es.length ≤ 100000) : EvS G p b b' (tTup t) ds (fun d => ∃ es, d = .tup es ∧ R1 es) := fun gs M H σ S Q k =>
  h gs M H σ S _ fun vs es H1 r1 e1 l1 rp => ⟨by rw [rp.length]; exact Nat.le_trans (hl es r1) (by decide), fun a ha => k _ _ _ ⟨es, rfl, r1⟩ (e1.trans (Ext.new ha)) (l1.upd fun _ z => nomatch z) (new_tup ((S.step e1 l1).mm p) ha rp)⟩
theorem ev_tup {es : List D} (h : EaD G p b b' t ds es) (hl : es.length ≤ 100000 := by decide) : EvD G p b b' (tTup t) ds (.tup es) :=
  (evs_tup h fun fs e => by rw [e]; exact hl).imp fun d ⟨fs, e1, e2⟩ => by rw [e1, e2]
/-- a call of what is known -/
theorem evs_cb {rr : List V → Hp → VK → Prop} {R1 : List D → Prop} (h : EvA G p b b' t ds R1) (h3 : ∀ es, R1 es → ClA G.K rr es R) : EvS G p b b' (tCB rr t) ds R := fun gs M H σ S Q k =>
  h gs M H σ S _ fun vs es H1 r1 e1 l1 rp => h3 es r1 (mmk p M G.M0) b' H1 vs Q ((S.step e1 l1).mm p) l1 rp fun z d H3 rd e3 l3 rp3 => k z d H3 rd (e1.trans e3) l3 rp3
theorem ev_cb {rr : List V → Hp → VK → Prop} {es : List D} (h : EaD G p b b' t ds es) (h3 : ClD G.K rr es z) : EvD G p b b' (tCB rr t) ds z := evs_cb h fun _ e => by rw [e]; exact h3

/-! ### tests -/
theorem et_tst {c : Bool} (h : EvD G false b b' te ds (.bl c)) : EtD G b b' (tTest te) ds c := fun gs M H σ S Q k => h gs M H σ S _ fun v d H' r e l rp => by
  subst r
  cases rp
  exact ⟨_, rfl, k c H' rfl e l⟩
theorem ets_tst {R1 : Bool → Prop} (h : EvS G false b b' te ds (fun d => ∃ c, d = .bl c ∧ R1 c)) : EvT G b b' (tTest te) ds R1 := fun gs M H σ S Q k => h gs M H σ S _ fun v d H' r e l rp => by
  obtain ⟨c, rfl, r1⟩ := r
  cases rp
  exact ⟨_, rfl, k c H' r1 e l⟩
theorem et_B {c : Bool} (h : EvD G false b b' te ds (.bl c)) : EtD G b b' (tB te) ds c := fun gs M H σ S Q k => h gs M H σ S _ fun v d H' r e l rp => by
  subst r
  cases rp
  exact ⟨_, rfl, k c H' rfl e l⟩
theorem et_not {c : Bool} (h : EtD G b b' tt ds c) : EtD G b b' (tNot tt) ds (!c) := fun gs M H σ S Q k => h gs M H σ S _ fun v H' r e l => k (!v) H' (by rw [r]) e l
theorem et_and {c e : Bool} (h : EtD G b b tt ds c) (h2 : c = true → EtD G b b tu ds e) : EtD G b b (tAnd tt tu) ds (c && e) := fun gs M H σ S Q k => h gs M H σ S _ fun v H' r x l => by
  subst r
  cases v with
  | true => exact (by show tu σ H' Q; exact h2 rfl gs M H' σ (S.step x l) Q fun w H2 r2 x2 l2 => k w H2 (by rw [r2]; rfl) (x.trans x2) l2)
  | false => exact (by show Q false H'; exact k false H' rfl x l)
theorem et_or {c e : Bool} (h : EtD G b b tt ds c) (h2 : c = false → EtD G b b tu ds e) : EtD G b b (tOr tt tu) ds (c || e) := fun gs M H σ S Q k => h gs M H σ S _ fun v H' r x l => by
  subst r
  cases v with
  | false => exact (by show tu σ H' Q; exact h2 rfl gs M H' σ (S.step x l) Q fun w H2 r2 x2 l2 => k w H2 (by rw [r2]; rfl) (x.trans x2) l2)
  | true => exact (by show Q true H'; exact k true H' rfl x l)
theorem ev_andV {c e : Bool} (h : EvD G false b b ta ds (.bl c)) (h2 : c = true → EvD G false b b tb ds (.bl e)) : EvD G p b b (tAndV ta tb) ds (.bl (c && e)) := fun gs M H σ S Q k => h gs M H σ S _ fun v d H' r x l rp => by
  subst r
  cases rp
  refine ⟨c, rfl, ?_⟩
  cases c with
  | true => exact (by show tb σ H' Q; exact h2 rfl gs M H' σ (S.step x l) Q fun w d2 H2 r2 x2 l2 rp2 => k w d2 H2 (by rw [r2]; rfl) (x.trans x2) l2 (by subst r2; exact rp2.flat rfl))
  | false => exact (by show Q (.bl false) H'; exact k _ _ H' rfl x l (.bl false))
theorem ev_orV {c e : Bool} (h : EvD G false b b ta ds (.bl c)) (h2 : c = false → EvD G false b b tb ds (.bl e)) : EvD G p b b (tOrV ta tb) ds (.bl (c || e)) := fun gs M H σ S Q k => h gs M H σ S _ fun v d H' r x l rp => by
  subst r
  cases rp
  refine ⟨c, rfl, ?_⟩
  cases c with
  | false => exact (by show tb σ H' Q; exact h2 rfl gs M H' σ (S.step x l) Q fun w d2 H2 r2 x2 l2 rp2 => k w d2 H2 (by rw [r2]; rfl) (x.trans x2) l2 (by subst r2; exact rp2.flat rfl))
  | true => exact (by show Q (.bl true) H'; exact k _ _ H' rfl x l (.bl true))
theorem ev_notV {c : Bool} (h : EvD G false b b' ta ds (.bl c)) : EvD G p b b' (tNotV ta) ds (.bl (!c)) := fun gs M H σ S Q k => h gs M H σ S _ fun v d H' r x l rp => by
  subst r
  cases rp
  exact ⟨c, rfl, k _ _ H' rfl x l (.bl _)⟩
/-- a if t else b -/
theorem evs_if {c : Bool} (h : EtD G b b1 tt ds c) (h1 : c = true → EvS G p b1 b' ta ds R) (h2 : c = false → EvS G p b1 b' tb ds R) : EvS G p b b' (tIf tt ta tb) ds R := fun gs M H σ S Q k => h gs M H σ S _ fun v H' r x l => by
  subst r
  cases v with
  | true => exact (by show ta σ H' Q; exact h1 rfl gs M H' σ (S.step x l) Q fun w d2 H2 r2 x2 l2 rp2 => k w d2 H2 r2 (x.trans x2) l2 rp2)
  | false => exact (by show tb σ H' Q; exact h2 rfl gs M H' σ (S.step x l) Q fun w d2 H2 r2 x2 l2 rp2 => k w d2 H2 r2 (x.trans x2) l2 rp2)
theorem ev_if {c : Bool} (h : EtD G b b1 tt ds c) (h1 : c = true → EvD G p b1 b' ta ds x) (h2 : c = false → EvD G p b1 b' tb ds y) : EvD G p b b' (tIf tt ta tb) ds (bif c then x else y) :=
  evs_if h (fun e => by subst e; exact h1 rfl) fun e => by subst e; exact h2 rfl
/-- a comparison of two -/
theorem ev_chain {r r' : R2} {tc : TE} {c e : Bool} {w : D} (h1 : EvD G p b b ta ds x) (h2 : EvD G p b b tb ds y) (h3 : Op2D G.K r x y (.bl c)) (h4 : c = true → EvD G p b b tc ds z) (h5 : c = true → Op2D G.K r' y z (.bl e)) :
    EvD G q b b (tChain r r' ta tb tc) ds (.bl (c && e)) := fun gs M H σ S Q k =>
  h1 gs M H σ S _ fun v1 d1 H1 r1 x1 l1 rp1 => h2 gs M H1 σ (S.step x1 l1) _ fun v2 d2 H2 r2 x2 l2 rp2 => by
    subst r1 r2
    have S2 := (S.step x1 l1).step x2 l2
    refine h3 (mmk p M G.M0) b H2 v1 v2 _ (S2.mm p) l2 (rp1.mono (msk_mono x2.toKp)) rp2 fun v3 d3 H3 r3 x3 l3 rp3 => ?_
    subst r3
    cases rp3
    refine ⟨c, rfl, ?_⟩
    cases c with
    | false => exact (by show Q (.bl false) H3; exact k _ _ H3 rfl ((x1.trans x2).trans x3) l3 (.bl false))
    | true =>
      show tc σ H3 fun w' H4 => r' v2 w' H4 Q
      have S3 := S2.step x3 l3
      refine h4 rfl gs M H3 σ S3 _ fun v4 d4 H4 r4 x4 l4 rp4 => ?_
      subst r4
      refine h5 rfl (mmk p M G.M0) b H4 v2 v4 Q ((S3.step x4 l4).mm p) l4 ((rp2.mono (msk_mono x3.toKp)).mono (msk_mono x4.toKp)) rp4 fun v5 d5 H5 r5 x5 l5 rp5 => ?_
      subst r5
      exact k _ _ H5 rfl (((x1.trans x2).trans x3).trans (x4.trans x5)) l5 (rp5.flat rfl)
end
end Sh

/-! Sh4: statements by data, defs by data. -/
namespace Sh
open PySem PySem.Spec PyProof.Rows L2

structure DE where
  nx : List Sd → Nat → Prop
  rt : D → List Sd → Nat → Prop
  bk : List Sd → Nat → Prop := fun _ _ => False
  ct : List Sd → Nat → Prop := fun _ _ => False
  ro : Bool := false
  ro2 : Bool := false

/-- v is a new list that nothing else knows -/
def OwnV (K : PySem.W.Frag) (N : Addr → Prop) (H H' : Hp) (v : V) (d : D) : Prop := ∃ (a : Addr) (vs : List V) (xs : List D), v = .ref a ∧ d = .lst xs ∧ H a = none ∧ H' a = some (.lst vs) ∧ RpA K (msk (fun c => N c ∨ c = a) H') vs xs
/-- rows: lists at the addresses F, their items no objects -/
inductive RowsP (K : PySem.W.Frag) (H : Hp) : List V → List (List D) → List Addr → Prop
  | nil : RowsP K H [] [] []
  | cons {b : Addr} {ws : List V} {ys : List D} {vs : List V} {yss : List (List D)} {F : List Addr} : H b = some (.lst ws) → RpA K (fun _ => none) ws ys → (∀ y ∈ ys, flatD y = true) → RowsP K H vs yss F → RowsP K H (.ref b :: vs) (ys :: yss) (b :: F)
/-- v is a new list of new lists, all unlike -/
def OwnV2 (K : PySem.W.Frag) (H H' : Hp) (v : V) (d : D) : Prop := ∃ (a : Addr) (vs : List V) (yss : List (List D)) (F : List Addr), v = .ref a ∧ d = .lst (yss.map .lst) ∧ H a = none ∧ (∀ c ∈ F, H c = none) ∧ (a :: F).Nodup ∧ H' a = some (.lst vs) ∧ RowsP K H' vs yss F
def OwnX (p2 : Bool) (K : PySem.W.Frag) (N : Addr → Prop) (H H' : Hp) (v : V) (d : D) : Prop := match p2 with
  | false => OwnV K N H H' v d
  | true => OwnV2 K H H' v d
structure Wants (G : Gx) (gs : List (V × D)) (E : DE) (Dn : Ends) : Prop where
  nx : ∀ M b H σ ds, G.st gs M b H σ ds → E.nx ds b → Dn.nx σ H
  rt : ∀ M b H σ ds v d, G.st gs M b H σ ds → E.rt d ds b → Rp G.K (msk G.M0 H) v d → (E.ro = true → OwnX E.ro2 G.K G.M0 G.H0 H v d) → Dn.rt v H
  bk : ∀ M b H σ ds, G.st gs M b H σ ds → E.bk ds b → Dn.bk σ H
  ct : ∀ M b H σ ds, G.st gs M b H σ ds → E.ct ds b → Dn.ct σ H
def Wt (G : Gx) (b : Nat) (ts : TS) (ds : List Sd) (E : DE) : Prop := ∀ gs M H σ, G.st gs M b H σ ds → ∀ Dn : Ends, Wants G gs E Dn → ts Dn σ H

section
variable {K : PySem.W.Frag} {H0 H H' : Hp} {M0 M : Addr → Prop} {b b' : Nat} {σ : List (Option V)} {ds : List Sd} {gs : List (V × D)}
theorem Stt.mmF (S : Stt K H0 M0 gs M b H σ ds) {p : Bool} {v : List (Str × V)} {d : List (Str × D)} (h : RpF K (msk M H) v d) : RpF K (msk (mmk p M M0) H) v d := by
  cases p with
  | true => exact h
  | false => exact h.mono (msk_sub S.m0)
/-- a new list is our own -/
theorem Stt.setOwn (S : Stt K H0 M0 gs M b H σ ds) {i : Nat} {p : Addr} {vs : List V} {xs : List D} (hp : H p = none) (r : RpA K (msk M H) vs xs) :
    Stt K H0 M0 gs (fun a => M a ∨ a = p) b (upd H p (.lst vs)) (σ.set i (some (.ref p))) (ds.set i (.own xs)) := by
  have nM : ¬ M p := fun z => S.liv p z hp
  have hup : Kp (msk M H) (msk (fun a => M a ∨ a = p) (upd H p (.lst vs))) := Kp.sub fun a o h => by
    obtain ⟨h1, h2⟩ := msk_of h
    have na : a ≠ p := ne_of_none h2 hp
    rw [msk_no fun z => z.elim h1 na, upd_ne na]
    exact h2
  have slk : ∀ (s : Option V) (e : Sd), SlOk K M H s e → SlOk K (fun a => M a ∨ a = p) (upd H p (.lst vs)) s e := fun s e h => by
    cases e with
    | un => trivial
    | dat d => obtain ⟨v, h1, h2⟩ := h; exact ⟨v, h1, h2.mono hup⟩
    | own ys => obtain ⟨a, ws, h1, h2, h3, h4⟩ := h; exact ⟨a, ws, h1, .inl h2, by rw [upd_ne (ne_of_none h3 hp)]; exact h3, h4.mono hup⟩
    | owd ys => obtain ⟨a, ws, h1, h2, h3, h4⟩ := h; exact ⟨a, ws, h1, .inl h2, by rw [upd_ne (ne_of_none h3 hp)]; exact h3, h4.mono hup⟩
    | par a ys => obtain ⟨ws, h1, h2, h3, h4⟩ := h; exact ⟨ws, h1, .inl h2, by rw [upd_ne (ne_of_none h3 hp)]; exact h3, h4.mono hup⟩
  have ownM : ∀ (j : Nat) (a : Addr) (e : Sd), σ[j]? = some (some (.ref a)) → ds[j]? = some e → isOwn e = true → M a := fun j a e h1 h2 h3 => by
    have q := S.sl j _ _ h1 h2
    cases e with
    | own ys => obtain ⟨a', ws, e1, e2, _⟩ := q; cases e1; exact e2
    | owd ys => obtain ⟨a', ws, e1, e2, _⟩ := q; cases e1; exact e2
    | par a' ys => obtain ⟨ws, e1, e2, _⟩ := q; cases e1; exact e2
    | un => cases h3
    | dat d => cases h3
  refine ⟨S.ext.trans (Ext.new hp), fun a h => .inl (S.m0 a h), fun a h n => ?_, fun a h => ?_, S.lim.upd (fun _ z => nomatch z), by rw [List.length_set, List.length_set, S.len], fun j s e h1 h2 => ?_, fun j k a e f h1 h2 h3 h4 h5 h6 => ?_, fun j a e h1 h2 h3 => ?_, fun q hq => (S.gh q hq).mono hup⟩
  · rcases h with h | h
    · exact S.new a h n
    · rw [h]; exact S.ext.free hp
  · by_cases e : a = p
    · rw [e, upd_same]; exact fun z => nomatch z
    · rw [upd_ne e]
      exact S.liv a (h.resolve_right e)
  · by_cases hj : i = j
    · subst hj
      have hi : i < σ.length := by simpa using (List.getElem?_eq_some_iff.mp h1).1
      rw [List.getElem?_set_self hi] at h1
      rw [List.getElem?_set_self (by rw [← S.len]; exact hi)] at h2
      cases h1
      cases h2
      exact ⟨p, vs, rfl, .inr rfl, upd_same, r.mono hup⟩
    · rw [List.getElem?_set_ne hj] at h1 h2
      exact slk s e (S.sl j s e h1 h2)
  · have look : ∀ (j : Nat) (e : Sd), (σ.set i (some (V.ref p)))[j]? = some (some (V.ref a)) → (ds.set i (Sd.own xs))[j]? = some e → isOwn e = true → (j = i ∧ a = p) ∨ (j ≠ i ∧ M a) := fun j e g1 g2 g3 => by
      by_cases hj : i = j
      · subst hj
        have hi : i < σ.length := by simpa using (List.getElem?_eq_some_iff.mp g1).1
        rw [List.getElem?_set_self hi] at g1
        cases g1
        exact .inl ⟨rfl, rfl⟩
      · rw [List.getElem?_set_ne hj] at g1 g2
        exact .inr ⟨fun z => hj z.symm, ownM j a e g1 g2 g3⟩
    rcases look j e h1 h3 h5 with ⟨e1, e2⟩ | ⟨e1, e2⟩
    · rcases look k f h2 h4 h6 with ⟨e3, e4⟩ | ⟨e3, e4⟩
      · rw [e1, e3]
      · rw [e2] at e4
        exact absurd e4 nM
    · rcases look k f h2 h4 h6 with ⟨e3, e4⟩ | ⟨e3, e4⟩
      · rw [e4] at e2
        exact absurd e2 nM
      · rw [List.getElem?_set_ne (Ne.symm e1)] at h1 h3
        rw [List.getElem?_set_ne (Ne.symm e3)] at h2 h4
        exact S.inj j k a e f h1 h2 h3 h4 h5 h6
  · by_cases hj : i = j
    · subst hj
      have hi : i < σ.length := by simpa using (List.getElem?_eq_some_iff.mp h1).1
      rw [List.getElem?_set_self hi] at h1
      cases h1
      exact fun z => nM (S.m0 _ z)
    · rw [List.getElem?_set_ne hj] at h1 h2
      exact S.ownNew j a e h1 h2 h3
/-- our own list is changed -/
theorem Stt.chgA (S : Stt K H0 M0 gs M b H σ ds) {i : Nat} {a : Addr} {vs : List V} {so sn : Sd} (hi : ds[i]? = some so) (hw : isOwn so = true) (hwn : isOwn sn = true) (hσ : σ[i]? = some (some (.ref a))) (m : M a) (n0 : ¬ M0 a) (hn : ∀ H', H' a = some (.lst vs) → msk M H' = msk M H → SlOk K M H' (some (.ref a)) sn) :
    Stt K H0 M0 gs M b (upd H a (.lst vs)) σ (ds.set i sn) := by
  have hm : msk M (upd H a (.lst vs)) = msk M H := msk_upd m
  have slk : ∀ (j : Nat) (s : Option V) (e : Sd), j ≠ i → σ[j]? = some s → ds[j]? = some e → SlOk K M (upd H a (.lst vs)) s e := fun j s e hj h1 h2 => by
    have q := S.sl j s e h1 h2
    cases e with
    | un => trivial
    | dat d => obtain ⟨v, g1, g2⟩ := q; exact ⟨v, g1, by rw [hm]; exact g2⟩
    | own zs =>
      obtain ⟨c, ws', g1, g2, g3, g4⟩ := q
      subst g1
      have nc : c ≠ a := fun z => by
        subst z
        exact hj (S.inj j i c _ _ h1 hσ h2 hi rfl hw)
      exact ⟨c, ws', rfl, g2, by rw [upd_ne nc]; exact g3, by rw [hm]; exact g4⟩
    | owd zs =>
      obtain ⟨c, ws', g1, g2, g3, g4⟩ := q
      subst g1
      have nc : c ≠ a := fun z => by
        subst z
        exact hj (S.inj j i c _ _ h1 hσ h2 hi rfl hw)
      exact ⟨c, ws', rfl, g2, by rw [upd_ne nc]; exact g3, by rw [hm]; exact g4⟩
    | par c zs =>
      obtain ⟨ws', g1, g2, g3, g4⟩ := q
      subst g1
      have nc : c ≠ a := fun z => by
        subst z
        exact hj (S.inj j i c _ _ h1 hσ h2 hi rfl hw)
      exact ⟨ws', rfl, g2, by rw [upd_ne nc]; exact g3, by rw [hm]; exact g4⟩
  have own : ∀ (j : Nat) (e : Sd), (ds.set i sn)[j]? = some e → isOwn e = true → ∃ e', ds[j]? = some e' ∧ isOwn e' = true := fun j e h1 h2 => by
    by_cases hj : i = j
    · subst hj
      exact ⟨_, hi, hw⟩
    · rw [List.getElem?_set_ne hj] at h1
      exact ⟨e, h1, h2⟩
  refine ⟨S.ext.mut (S.new a m n0), S.m0, S.new, fun c h => ?_, S.lim.upd (fun _ z => nomatch z), by rw [List.length_set]; exact S.len, fun j s e h1 h2 => ?_, fun j k c e f h1 h2 h3 h4 h5 h6 => ?_, fun j c e h1 h2 h3 => ?_, fun q hq => by rw [hm]; exact S.gh q hq⟩
  · by_cases e : c = a
    · rw [e, upd_same]; exact fun z => nomatch z
    · rw [upd_ne e]; exact S.liv c h
  · by_cases hj : i = j
    · subst hj
      rw [hσ] at h1
      cases h1
      rw [List.getElem?_set_self (List.getElem?_eq_some_iff.mp hi).1] at h2
      cases h2
      exact hn _ upd_same hm
    · rw [List.getElem?_set_ne hj] at h2
      exact slk j s e (Ne.symm hj) h1 h2
  · obtain ⟨e', g1, g2⟩ := own j e h3 h5
    obtain ⟨f', g3, g4⟩ := own k f h4 h6
    exact S.inj j k c e' f' h1 h2 g1 g3 g2 g4
  · obtain ⟨e', g1, g2⟩ := own j e h2 h3
    exact S.ownNew j c e' h1 g1 g2
theorem Stt.chg (S : Stt K H0 M0 gs M b H σ ds) {i : Nat} {a : Addr} {vs : List V} {xs ys : List D} (hi : ds[i]? = some (.own xs)) (hσ : σ[i]? = some (some (.ref a))) (r : RpA K (msk M H) vs ys) :
    Stt K H0 M0 gs M b (upd H a (.lst vs)) σ (ds.set i (.own ys)) := by
  obtain ⟨a', ws, e1, m, ha, r0, n0⟩ := S.ownL hi
  rw [hσ] at e1
  cases e1
  exact S.chgA hi rfl rfl hσ m n0 fun H' h1 h2 => ⟨a, vs, rfl, m, h1, by rw [h2]; exact r⟩
theorem Stt.chgP (S : Stt K H0 M0 gs M b H σ ds) {i : Nat} {a : Addr} {vs : List V} {xs ys : List D} (hi : ds[i]? = some (.par a xs)) (r : RpA K (msk M H) vs ys) :
    Stt K H0 M0 gs M b (upd H a (.lst vs)) σ (ds.set i (.par a ys)) := by
  obtain ⟨ws, e1, m, ha, r0, n0⟩ := S.parL hi
  exact S.chgA hi rfl rfl e1 m n0 fun H' h1 h2 => ⟨vs, rfl, m, h1, by rw [h2]; exact r⟩
/-- our own list is data from now on -/
theorem Stt.freeze (S : Stt K H0 M0 gs M b H σ ds) {i : Nat} {xs : List D} (hi : ds[i]? = some (.own xs)) : ∃ M', Stt K H0 M0 gs M' b H σ (ds.set i (.dat (.lst xs))) := by
  obtain ⟨a, vs, hσ, m, ha, r, n0⟩ := S.ownL hi
  have hs : Kp (msk M H) (msk (fun c => M c ∧ c ≠ a) H) := msk_sub fun c h => h.1
  have ra : Rp K (msk (fun c => M c ∧ c ≠ a) H) (.ref a) (.lst xs) := .lst (by rw [msk_no fun z => z.2 rfl]; exact ha) (r.mono hs)
  have other : ∀ (j : Nat) (c : Addr) (e : Sd), j ≠ i → σ[j]? = some (some (.ref c)) → ds[j]? = some e → isOwn e = true → c ≠ a := fun j c e hj h1 h2 h3 z => by
    subst z
    exact hj (S.inj j i c _ _ h1 hσ h2 hi h3 rfl)
  have own : ∀ (j : Nat) (e : Sd), (ds.set i (Sd.dat (.lst xs)))[j]? = some e → isOwn e = true → j ≠ i ∧ ds[j]? = some e := fun j e h1 h2 => by
    by_cases hj : i = j
    · subst hj
      rw [List.getElem?_set_self (List.getElem?_eq_some_iff.mp hi).1] at h1
      cases h1
      cases h2
    · rw [List.getElem?_set_ne hj] at h1
      exact ⟨Ne.symm hj, h1⟩
  refine ⟨fun c => M c ∧ c ≠ a, ⟨S.ext, fun c h => ⟨S.m0 c h, fun z => n0 (by rw [← z]; exact h)⟩, fun c h n => S.new c h.1 n, fun c h => S.liv c h.1, S.lim, by rw [List.length_set]; exact S.len, fun j s e h1 h2 => ?_, fun j k c e f h1 h2 h3 h4 h5 h6 => ?_, fun j c e h1 h2 h3 => ?_, fun q hq => (S.gh q hq).mono hs⟩⟩
  · by_cases hj : i = j
    · subst hj
      rw [hσ] at h1
      cases h1
      rw [List.getElem?_set_self (List.getElem?_eq_some_iff.mp hi).1] at h2
      cases h2
      exact ⟨_, rfl, ra⟩
    · rw [List.getElem?_set_ne hj] at h2
      have q := S.sl j s e h1 h2
      cases e with
      | un => trivial
      | dat d => obtain ⟨v, g1, g2⟩ := q; exact ⟨v, g1, g2.mono hs⟩
      | own zs => obtain ⟨c, ws, g1, g2, g3, g4⟩ := q; subst g1; exact ⟨c, ws, rfl, ⟨g2, other j c _ (Ne.symm hj) h1 h2 rfl⟩, g3, g4.mono hs⟩
      | owd zs => obtain ⟨c, ws, g1, g2, g3, g4⟩ := q; subst g1; exact ⟨c, ws, rfl, ⟨g2, other j c _ (Ne.symm hj) h1 h2 rfl⟩, g3, g4.mono hs⟩
      | par c zs => obtain ⟨ws, g1, g2, g3, g4⟩ := q; subst g1; exact ⟨ws, rfl, ⟨g2, other j c _ (Ne.symm hj) h1 h2 rfl⟩, g3, g4.mono hs⟩
  · exact S.inj j k c e f h1 h2 (own j e h3 h5).2 (own k f h4 h6).2 h5 h6
  · exact S.ownNew j c e h1 (own j e h2 h3).2 h3
/-- ghosts -/
theorem Stt.ghost (S : Stt K H0 M0 gs M b H σ ds) {v : V} {d : D} (r : Rp K (msk M H) v d) : Stt K H0 M0 ((v, d) :: gs) M b H σ ds :=
  ⟨S.ext, S.m0, S.new, S.liv, S.lim, S.len, S.sl, S.inj, S.ownNew, fun q hq => by
    rcases List.mem_cons.mp hq with e | hq
    · rw [e]; exact r
    · exact S.gh q hq⟩
theorem Stt.unghost {g : V × D} (S : Stt K H0 M0 (g :: gs) M b H σ ds) : Stt K H0 M0 gs M b H σ ds :=
  ⟨S.ext, S.m0, S.new, S.liv, S.lim, S.len, S.sl, S.inj, S.ownNew, fun q hq => S.gh q (List.mem_cons_of_mem _ hq)⟩
end

section
variable {G : Gx} {p : Bool} {b b' b1 b2 : Nat} {te ta tb : TE} {tt : TT} {ts t u : TS} {tA : TA} {ds : List Sd} {R : D → Prop} {d : D} {E : DE} {i j : Nat}
theorem Wants.imp {gs : List (V × D)} {E E' : DE} {Dn : Ends} (w : Wants G gs E' Dn) (h1 : ∀ ds b, E.nx ds b → E'.nx ds b) (h2 : ∀ d ds b, E.rt d ds b → E'.rt d ds b) (h3 : ∀ ds b, E.bk ds b → E'.bk ds b) (h4 : ∀ ds b, E.ct ds b → E'.ct ds b) (h5 : E'.ro = true → E.ro = true) (h6 : E'.ro2 = E.ro2 := by rfl) : Wants G gs E Dn :=
  ⟨fun M b H σ ds S e => w.nx M b H σ ds S (h1 _ _ e), fun M b H σ ds v d S e r o => w.rt M b H σ ds v d S (h2 _ _ _ e) r fun z => (by rw [h6]; exact o (h5 z)), fun M b H σ ds S e => w.bk M b H σ ds S (h3 _ _ e), fun M b H σ ds S e => w.ct M b H σ ds S (h4 _ _ e)⟩
theorem Wt.imp {E' : DE} (h : Wt G b ts ds E) (h1 : ∀ ds b, E.nx ds b → E'.nx ds b) (h2 : ∀ d ds b, E.rt d ds b → E'.rt d ds b) (h3 : ∀ ds b, E.bk ds b → E'.bk ds b) (h4 : ∀ ds b, E.ct ds b → E'.ct ds b) (h5 : E'.ro = true → E.ro = true) (h6 : E'.ro2 = E.ro2 := by rfl) : Wt G b ts ds E' :=
  fun gs M H σ S Dn w => h gs M H σ S Dn (w.imp h1 h2 h3 h4 h5 h6)
theorem w_next (h : E.nx ds b) : Wt G b tNext ds E := fun gs M H σ S Dn w => w.nx M b H σ ds S h
theorem w_seq (h : Wt G b t ds { E with nx := fun ds' b' => Wt G b' u ds' E }) : Wt G b (tSeq t u) ds E := fun gs M H σ S Dn w =>
  h gs M H σ S { Dn with nx := u Dn } ⟨fun M' b' H' σ' ds' S' e => e gs M' H' σ' S' Dn w, w.rt, w.bk, w.ct⟩
theorem w_brk (h : E.bk ds b) : Wt G b tBreak ds E := fun gs M H σ S Dn w => w.bk M b H σ ds S h
theorem w_cnt (h : E.ct ds b) : Wt G b tCont ds E := fun gs M H σ S Dn w => w.ct M b H σ ds S h
/-- name = e -/
theorem ws_asg (h : EvS G true b b' te ds R) (k : ∀ d, R d → E.nx (ds.set i (.dat d)) b') : Wt G b (tAsg te (gName i)) ds E := fun gs M H σ S Dn w =>
  h gs M H σ S _ fun v d H' r e l rp => w.nx M b' H' _ _ ((S.step e l).set rp) (k d r)
theorem w_asg (h : EvD G true b b' te ds d) (k : E.nx (ds.set i (.dat d)) b') : Wt G b (tAsg te (gName i)) ds E := ws_asg h fun _ e => by rw [e]; exact k
/-- name = [..], our own from now on -/
theorem w_own {es : List D} (h : EaD G true b b' tA ds es) (k : E.nx (ds.set i (.own es)) b') (hl : es.length ≤ 100000 := by decide) : Wt G b (tAsg (tLst tA) (gName i)) ds E := fun gs M H σ S Dn w =>
  h gs M H σ S _ fun vs fs H' r e l rp => ⟨by rw [rp.length, r]; exact Nat.le_trans hl (by decide), fun a ha => w.nx _ b' _ _ _ ((S.step e l).setOwn ha (by rw [r] at rp; exact rp)) k⟩
theorem w_freeze {xs : List D} (h : ds[i]? = some (.own xs)) (k : Wt G b ts (ds.set i (.dat (.lst xs))) E) : Wt G b ts ds E := fun gs M H σ S Dn w => by
  obtain ⟨M', S'⟩ := S.freeze h
  exact k gs M' H σ S' Dn w
/-- a, b, .. = e -/
def gNames : List Nat → TGs
  | [] => gNil
  | i :: is => gCons (gName i) (gNames is)
def setAll (ds : List Sd) : List Nat → List D → List Sd
  | i :: is, d :: es => setAll (ds.set i (.dat d)) is es
  | _, _ => ds
theorem names_run {K : PySem.W.Frag} {H0 H : Hp} {M0 M : Addr → Prop} {gs : List (V × D)} {Q : L2.St → Hp → Prop} : ∀ (is : List Nat) (vs : List V) (es : List D) (σ : List (Option V)) (ds : List Sd), is.length = vs.length → Stt K H0 M0 gs M b H σ ds → RpA K (msk M H) vs es →
    (∀ σ', Stt K H0 M0 gs M b H σ' (setAll ds is es) → Q σ' H) → gNames is vs σ H Q
  | [], [], [], σ, ds, _, S, .nil, k => ⟨rfl, k σ S⟩
  | i :: is, v :: vs, d :: es, σ, ds, hl, S, .cons r rr, k => ⟨v, vs, rfl, names_run is vs es _ _ (Nat.succ.inj hl) (S.set r) rr k⟩
theorem ws_unpack {is : List Nat} {n : Nat} (h : EvS G true b b' te ds R) (k : ∀ d, R d → ∃ es, d = .tup es ∧ es.length = n ∧ is.length = n ∧ E.nx (setAll ds is es) b') : Wt G b (tAsg te (gTup G.K n (gNames is))) ds E := fun gs M H σ S Dn w =>
  h gs M H σ S _ fun v d H' r e l rp => by
    obtain ⟨es, rfl, h1, h2, h3⟩ := k d r
    cases rp with
    | tup hs ha =>
      exact ⟨_, _, rfl, sqt_unm hs, by rw [ha.length, h1], names_run is _ es σ ds (by rw [h2, ← h1, ha.length]) (S.step e l) ha fun σ' S' => w.nx M b' H' σ' _ S' h3⟩
theorem w_unpack {is : List Nat} {n : Nat} {es : List D} (h : EvD G true b b' te ds (.tup es)) (k : E.nx (setAll ds is es) b') (h1 : es.length = n := by rfl) (h2 : is.length = n := by rfl) : Wt G b (tAsg te (gTup G.K n (gNames is))) ds E :=
  ws_unpack h fun d e => ⟨es, e, h1, h2, k⟩
theorem w_if {c : Bool} (h : EtD G b b1 tt ds c) (h1 : c = true → Wt G b1 t ds E) (h2 : c = false → Wt G b1 u ds E) : Wt G b (tIfS tt t u) ds E := fun gs M H σ S Dn w => h gs M H σ S _ fun v H' r x l => by
  subst r
  cases v with
  | true => exact (by show t Dn σ H'; exact h1 rfl gs M H' σ (S.step x l) Dn w)
  | false => exact (by show u Dn σ H'; exact h2 rfl gs M H' σ (S.step x l) Dn w)
theorem ws_if {R : Bool → Prop} (h : EvT G b b1 tt ds R) (h1 : R true → Wt G b1 t ds E) (h2 : R false → Wt G b1 u ds E) : Wt G b (tIfS tt t u) ds E := fun gs M H σ S Dn w => h gs M H σ S _ fun v H' r x l => by
  cases v with
  | true => exact (by show t Dn σ H'; exact h1 r gs M H' σ (S.step x l) Dn w)
  | false => exact (by show u Dn σ H'; exact h2 r gs M H' σ (S.step x l) Dn w)
theorem ws_ret (h : EvS G false b b' te ds R) (k : ∀ d, R d → E.rt d ds b') (ho : E.ro = false := by rfl) : Wt G b (tRet te) ds E := fun gs M H σ S Dn w => h gs M H σ S _ fun v d H' r e l rp => w.rt M b' H' σ ds v d (S.step e l) (k d r) rp fun z => by rw [ho] at z; cases z
theorem w_ret (h : EvD G false b b' te ds d) (k : E.rt d ds b') (ho : E.ro = false := by rfl) : Wt G b (tRet te) ds E := ws_ret h (fun _ e => by rw [e]; exact k) ho
theorem w_retN (k : E.rt .non ds b) (ho : E.ro = false := by rfl) : Wt G b tRetN ds E := fun gs M H σ S Dn w => w.rt M b H σ ds .non .non S k .non fun z => by rw [ho] at z; cases z
theorem ws_drop (h : EvS G false b b' te ds R) (k : ∀ d, R d → E.nx ds b') : Wt G b (tDrop te) ds E := fun gs M H σ S Dn w => h gs M H σ S _ fun v d H' r e l rp => w.nx M b' H' σ ds (S.step e l) (k d r)
theorem w_drop (h : EvD G false b b' te ds d) (k : E.nx ds b') : Wt G b (tDrop te) ds E := ws_drop h fun _ _ => k
/-- found.append(e), found our own -/
theorem ws_app {xs : List D} (hi : ds[i]? = some (.own xs)) (h : EvS G true b b' te ds R) (hl : xs.length < 100000) (k : ∀ d, R d → E.nx (ds.set i (.own (xs ++ [d]))) b') :
    Wt G b (tDrop (tBM G.K "list" rAppend (tVar i) (tCons te tNil))) ds E := fun gs M H σ S Dn w => by
  obtain ⟨a, vs, hσ, m, ha, r, n0⟩ := S.ownL hi
  refine ⟨.ref a, hσ, .inl ⟨rfl, vs, SqL.of ha⟩, ?_⟩
  refine h gs M H σ S _ fun v d H' rd e l rp => ?_
  have S' := S.step e l
  have ha' : H' a = some (.lst vs) := e.keep _ _ ha fun _ z => nomatch z
  refine ⟨a, vs, v, rfl, rfl, ha', by rw [r.length]; exact Nat.lt_of_lt_of_le hl (by decide), ?_⟩
  exact w.nx M b' _ σ _ (S'.chg hi hσ ((r.mono (msk_mono e.toKp)).append (.cons rp .nil))) (k d rd)
theorem w_app {xs : List D} (hi : ds[i]? = some (.own xs)) (h : EvD G true b b' te ds d) (hl : xs.length < 100000) (k : E.nx (ds.set i (.own (xs ++ [d]))) b') :
    Wt G b (tDrop (tBM G.K "list" rAppend (tVar i) (tCons te tNil))) ds E := ws_app hi h hl fun _ e => by rw [e]; exact k
end

/-! ### defs by data -/
structure Fd where
  n : Nat
  dom : List D → Prop
  cost : List D → Nat := fun _ => 0
  res : List D → D → Prop
  exn : List D → Addr → List (Str × D) → Prop := fun _ _ _ => False
  own : Bool := false
  own2 : Bool := false
def SpD (K : PySem.W.Frag) (F : Fd) : Sp := fun vs H Q E => ∃ (ds : List D) (N : Addr → Prop) (b : Nat), (∀ a, N a → H a ≠ none) ∧ Lim (F.cost ds + b) H ∧ RpA K (msk N H) vs ds ∧ ds.length = F.n ∧ F.dom ds ∧
  (∀ v d H', F.res ds d → Ext H H' → Lim b H' → Rp K (msk N H') v d → (F.own = true → OwnX F.own2 K N H H' v d) → Q v H') ∧
  (∀ C dd fsV fs H', F.exn ds C fs → Ext H H' → Lim b H' → H dd = none → H' dd = some (.xd fsV) → RpF K (msk N H') fsV fs → E (.ref C) (some dd) H')
theorem SpD.len {K : PySem.W.Frag} {F : Fd} {ps : List Str} (h : ps.length = F.n) : ∀ vs H Q E, SpD K F vs H Q E → vs.length = ps.length := fun vs H Q E ⟨ds, N, b, h1, h2, h3, h4, h5⟩ => by
  rw [h3.length, h4, h]
/-- the entry of a def's body -/
abbrev gOf (K : PySem.W.Frag) (H : Hp) (N : Addr → Prop) (E : XK) (F : Fd) (ds : List D) (b : Nat) : Gx := ⟨K, H, N, WD E, fun C fs _ b' => b ≤ b' ∧ F.exn ds C fs, false⟩
abbrev eOf (F : Fd) (ds : List D) (b : Nat) : DE := { nx := fun _ b' => b ≤ b' ∧ F.res ds .non ∧ F.own = false, rt := fun d _ b' => b ≤ b' ∧ F.res ds d, ro := F.own, ro2 := F.own2 }
def slots (N : Nat) (ds : List D) : List Sd := ds.map Sd.dat ++ List.replicate (N - ds.length) .un
theorem start_stt {K : PySem.W.Frag} {H : Hp} {N : Addr → Prop} {b : Nat} {names : List Str} {vs : List V} {ds : List D} (hN : ∀ a, N a → H a ≠ none) (hl : Lim b H) (r : RpA K (msk N H) vs ds) : Stt K H N [] N b H (L2.start names vs) (slots names.length ds) := by
  have len : (L2.start names vs).length = (slots names.length ds).length := by
    unfold L2.start slots
    rw [List.length_append, List.length_append, List.length_map, List.length_map, List.length_replicate, List.length_replicate, r.length]
  have noOwn : ∀ (j : Nat) (e : Sd), (slots names.length ds)[j]? = some e → isOwn e = true → False := fun j e h1 h2 => by
    have hm := List.mem_of_getElem? h1
    unfold slots at hm
    rcases List.mem_append.mp hm with q | q
    · obtain ⟨d, _, e1⟩ := List.mem_map.mp q
      rw [← e1] at h2
      cases h2
    · rw [(List.mem_replicate.mp q).2] at h2
      cases h2
  refine ⟨Ext.refl H, fun _ h => h, fun a h n => absurd h n, hN, hl, len, fun i s d h1 h2 => ?_, fun i j a d e _ _ h3 _ h5 _ => (noOwn i d h3 h5).elim, fun i a d _ h2 h3 => (noOwn i d h2 h3).elim, fun q hq => by cases hq⟩
  by_cases hi : i < ds.length
  · unfold slots at h2
    rw [List.getElem?_append_left (by rw [List.length_map]; exact hi), List.getElem?_map, List.getElem?_eq_getElem hi] at h2
    cases h2
    obtain ⟨v, e, rv⟩ := r.getD (List.getElem?_eq_getElem hi)
    unfold L2.start at h1
    rw [List.getElem?_append_left (by rw [List.length_map, r.length]; exact hi), List.getElem?_map, e] at h1
    cases h1
    exact ⟨v, rfl, rv⟩
  · unfold slots at h2
    rw [List.getElem?_append_right (by rw [List.length_map]; omega)] at h2
    have e := (List.mem_replicate.mp (List.mem_of_getElem? h2)).2
    rw [e]
    trivial
theorem gOf_acc {K : PySem.W.Frag} {H : Hp} {N : Addr → Prop} {E : XK} {F : Fd} {ds : List D} {b : Nat}
    (hx : ∀ C dd fsV fs H', F.exn ds C fs → Ext H H' → Lim b H' → H dd = none → H' dd = some (.xd fsV) → RpF K (msk N H') fsV fs → E (.ref C) (some dd) H') : (gOf K H N E F ds b).Acc :=
  fun gs M b' H' σ sd C dd fsV fs S h1 h2 _ h3 ⟨h4, h5⟩ => hx C dd fsV fs H' h5 S.ext (S.lim.mono h4) h2 h1 h3
section
variable {P : Program} {w : World} {K : PySem.W.Frag} {mg : Str → Option Value} {base : Heap}
/-- THE RULE for a def -/
theorem fn_data {x qual : Str} {st : Stmt} {f : Addr} {fd : FuncData} {N ps : List Str} {k : Nat} {F : Fd} {dvs : List V} {kws : List (Str × V)} (U : FunD K x qual (defArgs st) (defBody st) (defScope st) dvs kws f fd ∨ Fun K x qual st f fd) (S : FnScope N ps (defScope st)) (hn : ps.length = F.n)
    (hbody : ∀ (cdv : Value) (A : Around) (outer : List Env) (s : Shared) (H : Hp) (E : XK), Room k (A.deeper (envOfC qual (defScope st) s.heap.objs.size f cdv)) →
      Takes (cxOf (L2.CX P w) P w K mg base N qual (defScope st) f cdv A outer s H E) (WD E) →
      ∃ t, PSs (cxOf (L2.CX P w) P w K mg base N qual (defScope st) f cdv A outer s H E) (defBody st) t ∧
        ∀ (ds : List D) (N' : Addr → Prop) (b : Nat), ds.length = F.n → F.dom ds → (gOf K H N' E F ds b).Acc → Wt (gOf K H N' E F ds b) (F.cost ds + b) t (slots N.length ds) (eOf F ds b)) :
    FnOk P w K mg base (L2.CX P w) (k + 1) f fd ps (SpD K F) := by
  have main : ∀ (cdv : Value) (A : Around) (outer : List Env) (s : Shared) (H : Hp) (vs : List V) (Q : VK) (E : XK), Room k (A.deeper (envOfC qual (defScope st) s.heap.objs.size f cdv)) → SpD K F vs H Q E →
      ∃ t, PSs (cxOf (L2.CX P w) P w K mg base N qual (defScope st) f cdv A outer s H E) (defBody st) t ∧ t { nx := fun _ H' => Q .non H', rt := Q } (L2.start N vs) H := by
    intro cdv A outer s H vs Q E hr hsp
    obtain ⟨t, h1, h2⟩ := hbody cdv A outer s H E hr (takes_of (E := E) rfl rfl rfl rfl)
    obtain ⟨ds, N', b, a1, a2, a3, a4, a5, a6, a7⟩ := hsp
    refine ⟨t, h1, h2 ds N' b a4 a5 (gOf_acc a7) [] N' H _ (start_stt a1 a2 a3) _ ⟨fun M b' H' σ' ds' S' e => ?_, fun M b' H' σ' ds' v d S' e rp ro => ?_, fun _ _ _ _ _ _ e => e.elim, fun _ _ _ _ _ _ e => e.elim⟩⟩
    · exact a6 .non .non H' e.2.1 S'.ext (S'.lim.mono e.1) .non fun z => by rw [e.2.2] at z; cases z
    · exact a6 v d H' e.2 S'.ext (S'.lim.mono e.1) rp ro
  rcases U with U | U
  · exact U.ok S (SpD.len hn) main
  · obtain ⟨oc, od, kV, doc, pm, an, cdv, ct, osl, rfl, lk, hcd⟩ := U.ex
    exact fn_of lk hcd S (SpD.len hn) fun A outer s H vs Q E hr hsp => main cdv A outer s H vs Q E hr hsp
end
/-! ### calls of them -/
section
variable {G : Gx} {p : Bool} {b b' b1 b2 : Nat} {t tk : TA} {ds : List Sd} {F : Fd} {n m : Nat} {gV : List V → List V → List V} {gD : List D → List D → List D} {E : L2.St → XK} {es fs : List D}
/-- f(..), an own def; nothing raised -/
theorem evs_cl {Ra : List D → Prop} (ha : EvA G p b b1 t ds Ra) (hk : EaD G p b1 b2 tk ds fs) (hg : ∀ (H : Hp) vs zs es fs, RpA G.K H vs es → RpA G.K H zs fs → RpA G.K H (gV vs zs) (gD es fs)) (hm : fs.length = m)
    (h : ∀ es, Ra es → es.length = n ∧ (gD es fs).length = F.n ∧ F.dom (gD es fs) ∧ F.cost (gD es fs) + b' ≤ b2 ∧ ∀ C x, F.exn (gD es fs) C x → E = WE G.W ∧ G.Acc ∧ (G.pm = true → p = true) ∧ G.X C x ds b') :
    EvS G p b b' (tCl n m (SpD G.K F) gV E t tk) ds (fun d => ∃ es, Ra es ∧ F.res (gD es fs) d) := fun gs M H σ S Q k =>
  ha gs M H σ S _ fun vs es' H1 r1 e1 l1 rp1 => hk gs M H1 σ (S.step e1 l1) _ fun zs fs' H2 r2 e2 l2 rp2 => by
    subst r2
    have S2 := (S.step e1 l1).step e2 l2
    obtain ⟨a1, a2, a3, a4, a5⟩ := h es' r1
    refine ⟨by rw [rp1.length, a1], by rw [rp2.length, hm], gD es' fs', mmk p M G.M0, b', S2.mm p, l2.mono a4, hg _ _ _ _ _ (rp1.mono (msk_mono e2.toKp)) rp2, a2, a3, fun v d H3 rd e3 l3 rp3 _ => k v d H3 ⟨es', r1, rd⟩ ((e1.trans e2).trans e3) l3 rp3, fun C dd fsV x H3 rx e3 l3 hd hx rp3 => ?_⟩
    obtain ⟨h1, h2, h3, h4⟩ := a5 C x rx
    subst h1
    have S3 := S2.step e3 l3
    refine h2 gs M b' H3 σ ds C dd fsV x S3 hx (S2.ext.free hd) (fun z => S2.liv dd z hd) ?_ h4
    cases p with
    | true => exact S3.mmF rp3
    | false =>
      cases e : G.pm with
      | true => exact absurd (h3 e) Bool.false_ne_true
      | false => exact rp3
end
end Sh

/-! Sh5: walks by data: for, comprehensions, while. -/
namespace Sh
open PySem PySem.Spec PyProof.Rows L2

/-- what is held while something is walked -/
def Gh (K : PySem.W.Frag) (gs : List (V × D)) (M : Addr → Prop) (H : Hp) : Prop := (∀ q ∈ gs, Rp K (msk M H) q.1 q.2) ∧ ∀ a, M a → H a ≠ none
/-- J walks n items, the i-th one it i, as long as gs is held -/
structure JOk (K : PySem.W.Frag) (J : It) (gs : List (V × D)) (n : Nat) (it : Nat → D) : Prop where
  go : ∀ i M H, Gh K gs M H → i < n → J.go i H
  yld : ∀ i M H, Gh K gs M H → i < n → ∀ x H2, J.yld i H x H2 → Ext H H2 ∧ (∀ b, Lim b H → Lim b H2) ∧ Rp K (msk M H2) x (it i)
  stop : ∀ M H, Gh K gs M H → J.stop n H
def EvI (G : Gx) (b b' : Nat) (wi : TI) (ds : List Sd) (n : Nat) (it : Nat → D) : Prop := ∀ gs M H σ, G.st gs M b H σ ds → ∀ R : It → Hp → Prop,
  (∀ J gs' H', Ext H H' → Lim b' H' → (∀ q ∈ gs', Rp G.K (msk M H') q.1 q.2) → JOk G.K J gs' n it → R J H') → wi σ H R
section
variable {G : Gx} {p : Bool} {b b' b1 b2 : Nat} {te : TE} {ta : TA} {ds : List Sd}
theorem itr_ok {K : PySem.W.Frag} {lo : Int} {n : Nat} : JOk K (Itr lo n) [] n (fun i => .int (lo + i)) :=
  ⟨fun i M H _ h => h, fun i M H _ h x H2 ⟨e1, e2⟩ => by subst e1 e2; exact ⟨Ext.refl _, fun _ l => l, .int _⟩, fun M H _ => Nat.le_refl n⟩
theorem ei_r1 {n : Int} (h : EaD G p b b' ta ds [.int n]) (hn : -(2 ^ 62) ≤ n ∧ n < 2 ^ 62) : EvI G b b' (iRng1 ta) ds n.toNat (fun i => .int (i : Int)) := fun gs M H σ S R k =>
  h gs M H σ S _ fun vs es H' r e l rp => by
    subst r
    cases rp with
    | cons r1 r2 => cases r2; cases r1; exact ⟨n, rfl, hn.1, hn.2, k _ [] H' e l (fun q z => by cases z) (by
        have q := itr_ok (K := G.K) (lo := 0) (n := n.toNat)
        simp only [Int.zero_add] at q
        exact q)⟩
theorem ei_r2 {m n : Int} (h : EaD G p b b' ta ds [.int m, .int n]) (hm : -(2 ^ 62) ≤ m ∧ m < 2 ^ 62 ∧ -(2 ^ 62) ≤ n ∧ n < 2 ^ 62) : EvI G b b' (iRng2 ta) ds (n - m).toNat (fun i => .int (m + i)) := fun gs M H σ S R k =>
  h gs M H σ S _ fun vs es H' r e l rp => by
    subst r
    cases rp with
    | cons r1 r2 => cases r2 with | cons r2 r3 => cases r3; cases r2; cases r1; exact ⟨m, n, rfl, hm, k _ [] H' e l (fun q z => by cases z) itr_ok⟩
theorem ei_list {xs : List D} (h : EvD G true b b' te ds (.lst xs)) : EvI G b b' (iList G.K te) ds xs.length (fun i => xs.getD i .non) := fun gs M H σ S R k =>
  h gs M H σ S _ fun v d H' r e l rp => by
    subst r
    cases id rp with
    | @lst a vs _ ha r =>
      refine ⟨a, rfl, ⟨vs, SqL.of (msk_of ha).2⟩, k _ [(.ref a, .lst xs)] H' e l (fun q z => by rw [List.mem_singleton.mp z]; exact rp) ⟨fun i M1 H1 g hi => ?_, fun i M1 H1 g hi x H2 y => ?_, fun M1 H1 g => ?_⟩⟩
      all_goals
        have g1 := g.1 _ (List.mem_singleton.mpr rfl)
        cases g1 with
        | lst hb rb => _
      · have hi' := hi
        rw [← rb.length] at hi'
        exact ⟨_, _, SqL.of (msk_of hb).2, List.getElem?_eq_getElem hi'⟩
      · obtain ⟨e1, e2⟩ := y
        subst e1
        obtain ⟨d, hd, r2⟩ := rb.get (e2 _ (SqL.of (msk_of hb).2))
        refine ⟨Ext.refl _, fun _ l => l, ?_⟩
        rw [List.getD_eq_getElem?_getD, hd]
        exact r2
      · exact ⟨_, SqL.of (msk_of hb).2, Nat.le_of_eq rb.length⟩
theorem ei_tup {xs : List D} (h : EvD G true b b' te ds (.tup xs)) : EvI G b b' (iTup G.K te) ds xs.length (fun i => xs.getD i .non) := fun gs M H σ S R k =>
  h gs M H σ S _ fun v d H' r e l rp => by
    subst r
    cases id rp with
    | @tup a vs _ ha r =>
      refine ⟨a, rfl, ⟨vs, sqt_unm ha⟩, k _ [(.ref a, .tup xs)] H' e l (fun q z => by rw [List.mem_singleton.mp z]; exact rp) ⟨fun i M1 H1 g hi => ?_, fun i M1 H1 g hi x H2 y => ?_, fun M1 H1 g => ?_⟩⟩
      all_goals
        have g1 := g.1 _ (List.mem_singleton.mpr rfl)
        cases g1 with
        | tup hb rb => _
      · have hi' := hi
        rw [← rb.length] at hi'
        exact ⟨_, _, sqt_unm hb, List.getElem?_eq_getElem hi'⟩
      · obtain ⟨e1, e2⟩ := y
        subst e1
        obtain ⟨d, hd, r2⟩ := rb.get (e2 _ (sqt_unm hb))
        refine ⟨Ext.refl _, fun _ l => l, ?_⟩
        rw [List.getD_eq_getElem?_getD, hd]
        exact r2
      · exact ⟨_, sqt_unm hb, Nat.le_of_eq rb.length⟩
theorem ei_enum {xs : List D} (h : EaD G true b b' ta ds [.lst xs]) : EvI G b b' (iEnum G.K ta) ds xs.length (fun i => .tup [.int (i : Int), xs.getD i .non]) := fun gs M H σ S R k =>
  h gs M H σ S _ fun vs es H' r e l rp => by
    subst r
    cases rp with
    | cons rp r2 =>
      cases r2
      cases id rp with
      | @lst a vs _ ha r =>
        refine ⟨a, vs, rfl, SqL.of (msk_of ha).2, k _ [(.ref a, .lst xs)] H' e l (fun q z => by rw [List.mem_singleton.mp z]; exact rp) ⟨fun i M1 H1 g hi => ?_, fun i M1 H1 g hi x H2 y => ?_, fun M1 H1 g => ?_⟩⟩
        all_goals
          have g1 := g.1 _ (List.mem_singleton.mpr rfl)
          cases g1 with
          | lst hb rb => _
        · have hi' := hi
          rw [← rb.length] at hi'
          exact ⟨_, _, SqL.of (msk_of hb).2, List.getElem?_eq_getElem hi'⟩
        · obtain ⟨T, z, e1, e2, e3, e4⟩ := y
          subst e1 e3
          obtain ⟨d, hd, r2⟩ := rb.get (e4 _ (SqL.of (msk_of hb).2))
          refine ⟨Ext.new e2, fun _ l => l.upd (fun _ z => nomatch z), ?_⟩
          rw [List.getD_eq_getElem?_getD, hd]
          exact new_tup g.2 e2 (.cons (.int _) (.cons r2 .nil))
        · exact ⟨_, SqL.of (msk_of hb).2, Nat.le_of_eq rb.length⟩
theorem ei_zip {xs ys : List D} (h : EaD G true b b' ta ds [.lst xs, .lst ys]) : EvI G b b' (RZ.iZipA G.K ta) ds (min xs.length ys.length) (fun i => .tup [xs.getD i .non, ys.getD i .non]) := fun gs M H σ S R k =>
  h gs M H σ S _ fun vs es H' r e l rp => by
    subst r
    cases rp with
    | cons rp r2 =>
      cases r2 with
      | cons rq r3 =>
        cases r3
        cases id rp with
        | @lst a vs _ ha r =>
          cases id rq with
          | @lst c ws _ hc s =>
            refine ⟨a, c, vs, ws, rfl, .inl ⟨SqL.of (msk_of ha).2, SqL.of (msk_of hc).2, k _ [(.ref a, .lst xs), (.ref c, .lst ys)] H' e l (fun q z => ?_) ⟨fun i M1 H1 g hi => ?_, fun i M1 H1 g hi x H2 y => ?_, fun M1 H1 g => ?_⟩⟩⟩
            · rcases List.mem_cons.mp z with z | z
              · rw [z]; exact rp
              · rw [List.mem_singleton.mp z]; exact rq
            all_goals
              have g1 := g.1 (.ref a, .lst xs) List.mem_cons_self
              have g2 := g.1 (.ref c, .lst ys) (List.mem_cons_of_mem _ (List.mem_singleton.mpr rfl))
              cases g1 with
              | lst hb rb => _
              cases g2 with
              | lst hd rd => _
            · have h1 : i < xs.length := Nat.lt_of_lt_of_le hi (Nat.min_le_left _ _)
              have h2 : i < ys.length := Nat.lt_of_lt_of_le hi (Nat.min_le_right _ _)
              rw [← rb.length] at h1
              rw [← rd.length] at h2
              exact ⟨_, _, _, _, SqL.of (msk_of hb).2, SqL.of (msk_of hd).2, List.getElem?_eq_getElem h1, List.getElem?_eq_getElem h2⟩
            · obtain ⟨T, z, u, e1, e2, e3, e4, e5⟩ := y
              subst e1 e3
              obtain ⟨d1, hd1, q1⟩ := rb.get (e4 _ (SqL.of (msk_of hb).2))
              obtain ⟨d2, hd2, q2⟩ := rd.get (e5 _ (SqL.of (msk_of hd).2))
              refine ⟨Ext.new e2, fun _ l => l.upd (fun _ z => nomatch z), ?_⟩
              rw [List.getD_eq_getElem?_getD, hd1, List.getD_eq_getElem?_getD, hd2]
              exact new_tup g.2 e2 (.cons q1 (.cons q2 .nil))
            · have h1 := rb.length
              have h2 := rd.length
              exact ⟨_, _, SqL.of (msk_of hb).2, SqL.of (msk_of hd).2, by omega⟩
theorem ei_zipT {xs ys : List D} (h : EaD G true b b' ta ds [.tup xs, .tup ys]) : EvI G b b' (RZ.iZipA G.K ta) ds (min xs.length ys.length) (fun i => .tup [xs.getD i .non, ys.getD i .non]) := fun gs M H σ S R k =>
  h gs M H σ S _ fun vs es H' r e l rp => by
    subst r
    cases rp with
    | cons rp r2 =>
      cases r2 with
      | cons rq r3 =>
        cases r3
        cases id rp with
        | @tup a vs _ ha r =>
          cases id rq with
          | @tup c ws _ hc s =>
            refine ⟨a, c, vs, ws, rfl, .inr ⟨sqt_unm ha, sqt_unm hc, k _ [(.ref a, .tup xs), (.ref c, .tup ys)] H' e l (fun q z => ?_) ⟨fun i M1 H1 g hi => ?_, fun i M1 H1 g hi x H2 y => ?_, fun M1 H1 g => ?_⟩⟩⟩
            · rcases List.mem_cons.mp z with z | z
              · rw [z]; exact rp
              · rw [List.mem_singleton.mp z]; exact rq
            all_goals
              have g1 := g.1 (.ref a, .tup xs) List.mem_cons_self
              have g2 := g.1 (.ref c, .tup ys) (List.mem_cons_of_mem _ (List.mem_singleton.mpr rfl))
              cases g1 with
              | tup hb rb => _
              cases g2 with
              | tup hd rd => _
            · have h1 : i < xs.length := Nat.lt_of_lt_of_le hi (Nat.min_le_left _ _)
              have h2 : i < ys.length := Nat.lt_of_lt_of_le hi (Nat.min_le_right _ _)
              rw [← rb.length] at h1
              rw [← rd.length] at h2
              exact ⟨_, _, _, _, sqt_unm hb, sqt_unm hd, List.getElem?_eq_getElem h1, List.getElem?_eq_getElem h2⟩
            · obtain ⟨T, z, u, e1, e2, e3, e4, e5⟩ := y
              subst e1 e3
              obtain ⟨d1, hd1, q1⟩ := rb.get (e4 _ (sqt_unm hb))
              obtain ⟨d2, hd2, q2⟩ := rd.get (e5 _ (sqt_unm hd))
              refine ⟨Ext.new e2, fun _ l => l.upd (fun _ z => nomatch z), ?_⟩
              rw [List.getD_eq_getElem?_getD, hd1, List.getD_eq_getElem?_getD, hd2]
              exact new_tup g.2 e2 (.cons q1 (.cons q2 .nil))
            · have h1 := rb.length
              have h2 := rd.length
              exact ⟨_, _, sqt_unm hb, sqt_unm hd, by omega⟩
end

/-! ### targets -/
theorem set_comm' {α : Type} (l : List α) (i j : Nat) (x y : α) (h : i ≠ j) : (l.set i x).set j y = (l.set j y).set i x := List.set_comm x y h
theorem wipe_out (σ : List (Option V)) (j : Nat) (x : Option V) : ∀ vs : List Nat, j ∉ vs → wipe (σ.set j x) vs = (wipe σ vs).set j x
  | [], _ => rfl
  | v :: vs, h => by
    have h1 : v ≠ j := fun e => h (by rw [e]; exact List.mem_cons_self)
    have h2 : j ∉ vs := fun e => h (List.mem_cons_of_mem _ e)
    show (wipe (σ.set j x) vs).set v none = ((wipe σ vs).set v none).set j x
    rw [wipe_out σ j x vs h2, set_comm' _ j v _ _ (Ne.symm h1)]
theorem wipe_in (σ : List (Option V)) (j : Nat) (x : Option V) : ∀ vs : List Nat, j ∈ vs → wipe (σ.set j x) vs = wipe σ vs
  | v :: vs, h => by
    show (wipe (σ.set j x) vs).set v none = (wipe σ vs).set v none
    by_cases h2 : j ∈ vs
    · rw [wipe_in σ j x vs h2]
    · have e : j = v := (List.mem_cons.mp h).resolve_right h2
      rw [wipe_out σ j x vs h2, e, List.set_set]
def TgR (K : PySem.W.Frag) (vs : List Nat) (g : TG) (d : D) (ds ds' : List Sd) : Prop := ∀ H0 M0 gs M b H σ v, Stt K H0 M0 gs M b H σ ds → Rp K (msk M H) v d → ∀ Q : L2.St → Hp → Prop,
  (∀ σ', Stt K H0 M0 gs M b H σ' ds' → wipe σ' vs = wipe σ vs → Q σ' H) → g v σ H Q
def TgsR (K : PySem.W.Frag) (vs : List Nat) (g : TGs) (es : List D) (ds ds' : List Sd) : Prop := ∀ H0 M0 gs M b H σ ws, Stt K H0 M0 gs M b H σ ds → RpA K (msk M H) ws es → ∀ Q : L2.St → Hp → Prop,
  (∀ σ', Stt K H0 M0 gs M b H σ' ds' → wipe σ' vs = wipe σ vs → Q σ' H) → g ws σ H Q
section
variable {K : PySem.W.Frag} {vs : List Nat} {g : TG} {t : TGs} {d : D} {es : List D} {ds ds1 ds2 : List Sd}
theorem tg_name {j : Nat} (h : j ∈ vs := by decide) : TgR K vs (gName j) d ds (ds.set j (.dat d)) := fun H0 M0 gs M b H σ v S r Q k => k _ (S.set r) (wipe_in _ _ _ _ h)
theorem tgs_nil : TgsR K vs gNil [] ds ds := fun H0 M0 gs M b H σ ws S r Q k => by
  cases r
  exact ⟨rfl, k σ S rfl⟩
theorem tgs_cons (h1 : TgR K vs g d ds ds1) (h2 : TgsR K vs t es ds1 ds2) : TgsR K vs (gCons g t) (d :: es) ds ds2 := fun H0 M0 gs M b H σ ws S r Q k => by
  cases r with
  | cons r1 r2 => exact ⟨_, _, rfl, h1 H0 M0 gs M b H σ _ S r1 _ fun σ1 S1 e1 => h2 H0 M0 gs M b H σ1 _ S1 r2 Q fun σ2 S2 e2 => k σ2 S2 (e2.trans e1)⟩
theorem tg_tup {n : Nat} (h : TgsR K vs t es ds ds1) (hl : es.length = n := by rfl) : TgR K vs (gTup K n t) (.tup es) ds ds1 := fun H0 M0 gs M b H σ v S r Q k => by
  cases r with
  | tup hs ha => exact ⟨_, _, rfl, sqt_unm hs, by rw [ha.length, hl], h H0 M0 gs M b H σ _ S ha Q k⟩
end
/-- target = e, a tuple's parts within -/
theorem ws_tgt {G : Gx} {b b' : Nat} {te : TE} {g : TG} {vs : List Nat} {ds : List Sd} {R : D → Prop} {E : DE} (h : EvS G true b b' te ds R) (k : ∀ d, R d → ∃ ds', TgR G.K vs g d ds ds' ∧ E.nx ds' b') : Wt G b (tAsg te g) ds E := fun gs M H σ S Dn w =>
  h gs M H σ S _ fun v d H' r e l rp => by
    obtain ⟨ds', h1, h2⟩ := k d r
    exact h1 _ _ gs M b' H' σ v (S.step e l) rp _ fun σ' S' _ => w.nx M b' H' σ' ds' S' h2
theorem w_tgt {G : Gx} {b b' : Nat} {te : TE} {g : TG} {vs : List Nat} {ds ds' : List Sd} {d : D} {E : DE} (h : EvD G true b b' te ds d) (t : TgR G.K vs g d ds ds') (k : E.nx ds' b') : Wt G b (tAsg te g) ds E :=
  ws_tgt h fun x e => ⟨ds', by rw [e]; exact t, k⟩

/-! ### for -/
theorem Stt.ghosts {K : PySem.W.Frag} {H0 H : Hp} {M0 M : Addr → Prop} {b : Nat} {σ : List (Option V)} {ds : List Sd} {gs : List (V × D)} (S : Stt K H0 M0 gs M b H σ ds) {hs : List (V × D)} (h : ∀ q ∈ hs, Rp K (msk M H) q.1 q.2) : Stt K H0 M0 (hs ++ gs) M b H σ ds :=
  ⟨S.ext, S.m0, S.new, S.liv, S.lim, S.len, S.sl, S.inj, S.ownNew, fun q hq => (List.mem_append.mp hq).elim (h q) (S.gh q)⟩
theorem Stt.unghosts {K : PySem.W.Frag} {H0 H : Hp} {M0 M : Addr → Prop} {b : Nat} {σ : List (Option V)} {ds : List Sd} {gs hs : List (V × D)} (S : Stt K H0 M0 (hs ++ gs) M b H σ ds) : Stt K H0 M0 gs M b H σ ds :=
  ⟨S.ext, S.m0, S.new, S.liv, S.lim, S.len, S.sl, S.inj, S.ownNew, fun q hq => S.gh q (List.mem_append_right _ hq)⟩
theorem Stt.gh' {K : PySem.W.Frag} {H0 H : Hp} {M0 M : Addr → Prop} {b : Nat} {σ : List (Option V)} {ds : List Sd} {gs hs : List (V × D)} (S : Stt K H0 M0 (hs ++ gs) M b H σ ds) : Gh K hs M H := ⟨fun q hq => S.gh q (List.mem_append_left _ hq), S.liv⟩
theorem Wants.ghosts {G : Gx} {gs hs : List (V × D)} {E : DE} {Dn : Ends} (w : Wants G gs E Dn) : Wants G (hs ++ gs) E Dn :=
  ⟨fun M b H σ ds S e => w.nx M b H σ ds S.unghosts e, fun M b H σ ds v d S e r o => w.rt M b H σ ds v d S.unghosts e r o, fun M b H σ ds S e => w.bk M b H σ ds S.unghosts e, fun M b H σ ds S e => w.ct M b H σ ds S.unghosts e⟩
/-- for .. in ..: I what holds ahead of turn i -/
theorem w_for {G : Gx} {b b1 : Nat} {wi : TI} {g : TG} {tb : TS} {ds : List Sd} {E : DE} {n : Nat} {it : Nat → D} (vs : List Nat) (I : Nat → List Sd → Nat → Prop) (hi : EvI G b b1 wi ds n it) (h0 : I 0 ds b1)
    (hs : ∀ i ds' b', i < n → I i ds' b' → ∃ ds'', TgR G.K vs g (it i) ds' ds'' ∧ Wt G b' tb ds'' { E with nx := I (i + 1), ct := I (i + 1), bk := E.nx }) (hd : ∀ ds' b', I n ds' b' → E.nx ds' b') : Wt G b (tFor wi g tb) ds E := fun gs M H σ S Dn w =>
  hi gs M H σ S _ fun J gs' H' e l hg ok => by
    have S1 : Stt G.K G.H0 G.M0 (gs' ++ gs) M b1 H' σ ds := (S.step e l).ghosts hg
    refine ⟨fun i m σ H => m = n - i ∧ i ≤ n ∧ ∃ M b ds', Stt G.K G.H0 G.M0 (gs' ++ gs) M b H σ ds' ∧ I i ds' b, ⟨n, by omega, Nat.zero_le _, M, b1, ds, S1, h0⟩, ?_⟩
    rintro i m σ2 H2 ⟨rfl, hn, M2, b2, ds2, S2, i2⟩
    by_cases hlt : i < n
    · refine .inr ⟨ok.go i M2 H2 S2.gh' hlt, fun σ H => ∃ M b ds', Stt G.K G.H0 G.M0 (gs' ++ gs) M b H σ ds' ∧ I (i + 1) ds' b, fun σ' H' z => ⟨n - (i + 1), by omega, rfl, hlt, z⟩, fun x H3 y => ?_⟩
      obtain ⟨x1, x2, x3⟩ := ok.yld i M2 H2 S2.gh' hlt x H3 y
      obtain ⟨ds'', t1, t2⟩ := hs i ds2 b2 hlt i2
      refine t1 _ _ _ M2 b2 H3 σ2 x (S2.step x1 (x2 _ S2.lim)) x3 _ fun σ4 S4 _ => ?_
      exact t2 _ M2 H3 σ4 S4 _ ⟨fun M b H σ ds S e => ⟨M, b, ds, S, e⟩, fun M b H σ ds v d S e r o => w.rt M b H σ ds v d S.unghosts e r o, fun M b H σ ds S e => w.nx M b H σ ds S.unghosts e, fun M b H σ ds S e => ⟨M, b, ds, S, e⟩⟩
    · have en : i = n := by omega
      subst en
      exact .inl ⟨ok.stop M2 H2 S2.gh', w.nx M2 b2 H2 σ2 ds2 S2.unghosts (hd ds2 b2 i2)⟩
/-- while ..: I holds ahead of each turn, μ falls -/
theorem w_while {G : Gx} {b : Nat} {tc : TT} {tb : TS} {ds : List Sd} {E : DE} (I : Nat → List Sd → Nat → Prop) (m0 : Nat) (h0 : I m0 ds b)
    (hs : ∀ m ds' b', I m ds' b' → ∃ c : Bool, EtD G b' b' tc ds' c ∧ (c = true → Wt G b' tb ds' { E with nx := fun ds2 b2 => ∃ m', m' < m ∧ I m' ds2 b2, ct := fun ds2 b2 => ∃ m', m' < m ∧ I m' ds2 b2, bk := E.nx }) ∧ (c = false → E.nx ds' b')) : Wt G b (tWhile tc tb) ds E := fun gs M H σ S Dn w => by
  refine ⟨fun m σ H => ∃ M b ds', Stt G.K G.H0 G.M0 gs M b H σ ds' ∧ I m ds' b, ⟨m0, M, b, ds, S, h0⟩, ?_⟩
  rintro m σ2 H2 ⟨M2, b2, ds2, S2, i2⟩
  obtain ⟨c, h1, h2, h3⟩ := hs m ds2 b2 i2
  refine h1 gs M2 H2 σ2 S2 _ fun c' H3 r e l => ?_
  subst r
  have S3 := S2.step e l
  cases c' with
  | true =>
    refine ⟨fun σ H => ∃ m', m' < m ∧ ∃ M b ds', Stt G.K G.H0 G.M0 gs M b H σ ds' ∧ I m' ds' b, fun σ' H' z => z, ?_⟩
    exact h2 rfl gs M2 H3 σ2 S3 _ ⟨fun M b H σ ds S ⟨m', z1, z2⟩ => ⟨m', z1, M, b, ds, S, z2⟩, w.rt, w.nx, fun M b H σ ds S ⟨m', z1, z2⟩ => ⟨m', z1, M, b, ds, S, z2⟩⟩
  | false => exact w.nx M2 b2 H3 σ2 ds2 S3 (h3 rfl)

/-! ### comprehensions -/
def wipeD (ds : List Sd) : List Nat → List Sd
  | [] => ds
  | v :: vs => (wipeD ds vs).set v .un
theorem Stt.wipe {K : PySem.W.Frag} {H0 H : Hp} {M0 M : Addr → Prop} {b : Nat} {σ : List (Option V)} {ds : List Sd} {gs : List (V × D)} (S : Stt K H0 M0 gs M b H σ ds) : ∀ vs : List Nat, Stt K H0 M0 gs M b H (L2.wipe σ vs) (wipeD ds vs)
  | [] => S
  | v :: vs => (Stt.wipe S vs).forget v none
/-- a list that is being made -/
theorem Stt.grow {K : PySem.W.Frag} {H0 H H' : Hp} {M0 M : Addr → Prop} {b b' : Nat} {σ : List (Option V)} {ds : List Sd} {gs : List (V × D)} (S : Stt K H0 M0 gs M b H σ ds) {p : Addr} (hp : H p = none) (e : Ext H H') (l : Lim b' H') (hl : H' p ≠ none) :
    Stt K H0 M0 gs (fun a => M a ∨ a = p) b' H' σ ds := by
  have hup : Kp (msk M H) (msk (fun a => M a ∨ a = p) H') := ⟨fun a o h n => by
    obtain ⟨h1, h2⟩ := msk_of h
    have na : a ≠ p := ne_of_none h2 hp
    rw [msk_no fun z => z.elim h1 na]
    exact e.keep a o h2 n, fun a n h => by
    obtain ⟨h1, h2⟩ := msk_of h
    have na : a ≠ p := ne_of_none h2 hp
    obtain ⟨m, q⟩ := e.pz a n h2
    exact ⟨m, by rw [msk_no fun z => z.elim h1 na]; exact q⟩⟩
  refine ⟨S.ext.trans e, fun a h => .inl (S.m0 a h), fun a h n => ?_, fun a h => ?_, l, S.len, fun j s d h1 h2 => ?_, S.inj, S.ownNew, fun q hq => (S.gh q hq).mono hup⟩
  · rcases h with h | h
    · exact S.new a h n
    · rw [h]; exact S.ext.free hp
  · rcases h with h | h
    · exact e.dom a (S.liv a h)
    · rw [h]; exact hl
  · have q := S.sl j s d h1 h2
    cases d with
    | un => trivial
    | dat d => obtain ⟨v, g1, g2⟩ := q; exact ⟨v, g1, g2.mono hup⟩
    | own ys => obtain ⟨a, ws, g1, g2, g3, g4⟩ := q; exact ⟨a, ws, g1, .inl g2, e.keep _ _ g3 (fun _ z => nomatch z), g4.mono hup⟩
    | owd ys => obtain ⟨a, ws, g1, g2, g3, g4⟩ := q; exact ⟨a, ws, g1, .inl g2, e.keep _ _ g3 (fun _ z => nomatch z), g4.mono hup⟩
    | par a ys => obtain ⟨ws, g1, g2, g3, g4⟩ := q; exact ⟨ws, g1, .inl g2, e.keep _ _ g3 (fun _ z => nomatch z), g4.mono hup⟩
/-! ### lists that nothing else knows -/
def EvO (G : Gx) (b b' : Nat) (te : TE) (ds : List Sd) (R : List D → Prop) : Prop :=
  ∀ gs M H σ, G.st gs M b H σ ds → ∀ Q : VK, (∀ a vs xs H', R xs → Ext H H' → Lim b' H' → H a = none → H' a = some (.lst vs) → RpA G.K (msk (fun c => M c ∨ c = a) H') vs xs → Q (.ref a) H') → te σ H Q
abbrev EoD (G : Gx) (b b' : Nat) (te : TE) (ds : List Sd) (xs : List D) : Prop := EvO G b b' te ds (fun x => x = xs)
theorem EvO.imp {G : Gx} {b b' : Nat} {te : TE} {ds : List Sd} {R R' : List D → Prop} (h : EvO G b b' te ds R) (i : ∀ xs, R xs → R' xs) : EvO G b b' te ds R' := fun gs M H σ S Q k => h gs M H σ S Q fun a vs xs H' r => k a vs xs H' (i xs r)
theorem EvO.evs {G : Gx} {p : Bool} {b b' : Nat} {te : TE} {ds : List Sd} {R : List D → Prop} (h : EvO G b b' te ds R) : EvS G p b b' te ds (fun d => ∃ xs, d = .lst xs ∧ R xs) := fun gs M H σ S Q k =>
  h gs M H σ S Q fun a vs xs H' r e l hn ha rr => by
    have nM : ¬ M a := fun z => S.liv a z hn
    refine k _ _ H' ⟨xs, rfl, r⟩ e l (.lst ?_ (rr.mono (msk_sub fun c hc => ?_)))
    · rw [msk_no]
      · exact ha
      · cases p with
        | true => exact nM
        | false => exact fun z => nM (S.m0 a z)
    · cases p with
      | true => exact .inl hc
      | false => exact .inl (S.m0 c hc)
theorem EvO.evd {G : Gx} {p : Bool} {b b' : Nat} {te : TE} {ds : List Sd} {xs : List D} (h : EoD G b b' te ds xs) : EvD G p b b' te ds (.lst xs) := (EvO.evs h).imp fun d ⟨ys, e1, e2⟩ => by rw [e1, e2]
theorem Stt.adopt {K : PySem.W.Frag} {H0 H H' : Hp} {M0 M : Addr → Prop} {b b' : Nat} {σ : List (Option V)} {ds : List Sd} {gs : List (V × D)} {i : Nat} {p : Addr} {vs : List V} {xs : List D} (S : Stt K H0 M0 gs M b H σ ds) (hp : H p = none) (e : Ext H H') (l : Lim b' H') (hl : H' p = some (.lst vs))
    (r : RpA K (msk (fun a => M a ∨ a = p) H') vs xs) : Stt K H0 M0 gs (fun a => M a ∨ a = p) b' H' (σ.set i (some (.ref p))) (ds.set i (.own xs)) := by
  have nM : ¬ M p := fun z => S.liv p z hp
  have S1 := S.grow hp e l (by rw [hl]; exact fun z => nomatch z)
  have ownM : ∀ (j : Nat) (a : Addr) (e : Sd), σ[j]? = some (some (.ref a)) → ds[j]? = some e → isOwn e = true → M a := fun j a e h1 h2 h3 => by
    have q := S.sl j _ _ h1 h2
    cases e with
    | own ys => obtain ⟨a', ws, e1, e2, _⟩ := q; cases e1; exact e2
    | owd ys => obtain ⟨a', ws, e1, e2, _⟩ := q; cases e1; exact e2
    | par a' ys => obtain ⟨ws, e1, e2, _⟩ := q; cases e1; exact e2
    | un => cases h3
    | dat d => cases h3
  refine ⟨S1.ext, S1.m0, S1.new, S1.liv, l, by rw [List.length_set, List.length_set, S.len], fun j s e h1 h2 => ?_, fun j k a e f h1 h2 h3 h4 h5 h6 => ?_, fun j a e h1 h2 h3 => ?_, S1.gh⟩
  · by_cases hj : i = j
    · subst hj
      have hi : i < σ.length := by simpa using (List.getElem?_eq_some_iff.mp h1).1
      rw [List.getElem?_set_self hi] at h1
      rw [List.getElem?_set_self (by rw [← S.len]; exact hi)] at h2
      cases h1
      cases h2
      exact ⟨p, vs, rfl, .inr rfl, hl, r⟩
    · rw [List.getElem?_set_ne hj] at h1 h2
      exact S1.sl j s e h1 h2
  · have look : ∀ (j : Nat) (e : Sd), (σ.set i (some (V.ref p)))[j]? = some (some (V.ref a)) → (ds.set i (Sd.own xs))[j]? = some e → isOwn e = true → (j = i ∧ a = p) ∨ (j ≠ i ∧ M a) := fun j e g1 g2 g3 => by
      by_cases hj : i = j
      · subst hj
        have hi : i < σ.length := by simpa using (List.getElem?_eq_some_iff.mp g1).1
        rw [List.getElem?_set_self hi] at g1
        cases g1
        exact .inl ⟨rfl, rfl⟩
      · rw [List.getElem?_set_ne hj] at g1 g2
        exact .inr ⟨fun z => hj z.symm, ownM j a e g1 g2 g3⟩
    rcases look j e h1 h3 h5 with ⟨e1, e2⟩ | ⟨e1, e2⟩
    · rcases look k f h2 h4 h6 with ⟨e3, e4⟩ | ⟨e3, e4⟩
      · rw [e1, e3]
      · rw [e2] at e4
        exact absurd e4 nM
    · rcases look k f h2 h4 h6 with ⟨e3, e4⟩ | ⟨e3, e4⟩
      · rw [e4] at e2
        exact absurd e2 nM
      · rw [List.getElem?_set_ne (Ne.symm e1)] at h1 h3
        rw [List.getElem?_set_ne (Ne.symm e3)] at h2 h4
        exact S.inj j k a e f h1 h2 h3 h4 h5 h6
  · by_cases hj : i = j
    · subst hj
      have hi : i < σ.length := by simpa using (List.getElem?_eq_some_iff.mp h1).1
      rw [List.getElem?_set_self hi] at h1
      cases h1
      exact fun z => nM (S.m0 _ z)
    · rw [List.getElem?_set_ne hj] at h1 h2
      exact S.ownNew j a e h1 h2 h3
section
variable {G : Gx} {p : Bool} {b b' b1 b2 : Nat} {te ta tb : TE} {tA : TA} {ds : List Sd} {R : List D → Prop} {E : DE} {i : Nat}
/-- name = .., our own from now on -/
theorem ws_ownE (h : EvO G b b' te ds R) (k : ∀ xs, R xs → E.nx (ds.set i (.own xs)) b') : Wt G b (tAsg te (gName i)) ds E := fun gs M H σ S Dn w =>
  h gs M H σ S _ fun a vs xs H' r e l hn ha rr => w.nx _ b' H' _ _ (S.adopt hn e l ha rr) (k xs r)
theorem w_ownE {xs : List D} (h : EoD G b b' te ds xs) (k : E.nx (ds.set i (.own xs)) b') : Wt G b (tAsg te (gName i)) ds E := ws_ownE h fun ys e => by rw [e]; exact k
/-- return of what nothing else knows -/
theorem ws_retE (h : EvO G b b' te ds R) (k : ∀ xs, R xs → E.rt (.lst xs) ds b') (ho : E.ro2 = false := by rfl) : Wt G b (tRet te) ds E := fun gs M H σ S Dn w =>
  h gs M H σ S _ fun a vs xs H' r e l hn ha rr => by
    have nM : ¬ M a := fun z => S.liv a z hn
    have rm : RpA G.K (msk (fun c => G.M0 c ∨ c = a) H') vs xs := rr.mono (msk_sub fun c hc => hc.elim (fun z => .inl (S.m0 c z)) .inr)
    exact w.rt M b' H' σ ds _ _ (S.step e l) (k xs r) (.lst (by rw [msk_no fun z => nM (S.m0 a z)]; exact ha) (rm.mono (msk_sub fun c hc => .inl hc))) fun _ => (by rw [ho]; exact ⟨a, vs, xs, rfl, rfl, S.ext.free hn, ha, rm⟩)
theorem w_retE {xs : List D} (h : EoD G b b' te ds xs) (k : E.rt (.lst xs) ds b') (ho : E.ro2 = false := by rfl) : Wt G b (tRet te) ds E := ws_retE h (fun ys e => by rw [e]; exact k) ho
/-- return of our own -/
theorem w_retO {xs : List D} (hi : ds[i]? = some (.own xs)) (k : E.rt (.lst xs) ds b) (ho : E.ro2 = false := by rfl) : Wt G b (tRet (tVar i)) ds E := fun gs M H σ S Dn w => by
  obtain ⟨a, vs, hσ, m, ha, r, n0⟩ := S.ownL hi
  have rm : RpA G.K (msk (fun c => G.M0 c ∨ c = a) H) vs xs := r.mono (msk_sub fun c hc => hc.elim (S.m0 c) fun z => by rw [z]; exact m)
  exact ⟨.ref a, hσ, w.rt M b H σ ds _ _ S k (.lst (by rw [msk_no n0]; exact ha) (rm.mono (msk_sub fun c hc => .inl hc))) fun _ => (by rw [ho]; exact ⟨a, vs, xs, rfl, rfl, S.new a m n0, ha, rm⟩)⟩
theorem eo_new {H H' : Hp} {M : Addr → Prop} {K : PySem.W.Frag} {a : Addr} {vs : List V} {xs : List D} (hn : H a = none) (r : RpA K (msk M H) vs xs) : RpA K (msk (fun c => M c ∨ c = a) (upd H a (.lst vs))) vs xs := r.mono (Kp.sub fun c o h => by
  obtain ⟨h1, h2⟩ := msk_of h
  have nc : c ≠ a := ne_of_none h2 hn
  rw [msk_no fun z => z.elim h1 nc, upd_ne nc]
  exact h2)
theorem eos_lst (h : EvA G true b b' tA ds R) (hl : ∀ xs, R xs → xs.length ≤ 100000) : EvO G b b' (tLst tA) ds R := fun gs M H σ S Q k =>
  h gs M H σ S _ fun vs es H1 r1 e1 l1 rp => ⟨by rw [rp.length]; exact Nat.le_trans (hl es r1) (by decide), fun a ha => k a vs es _ r1 (e1.trans (Ext.new ha)) (l1.upd fun _ z => nomatch z) (e1.free ha) upd_same (eo_new (H' := H1) ha rp)⟩
theorem eo_lst {es : List D} (h : EaD G true b b' tA ds es) (hl : es.length ≤ 100000 := by decide) : EoD G b b' (tLst tA) ds es := eos_lst h fun xs e => by rw [e]; exact hl
end
/-- what a comprehension makes: P i acc: what may be made of the first i items -/
theorem eos_lc {G : Gx} {b b1 b' : Nat} {wi : TI} {g : TG} {tt : TT} {te : TE} {vs : List Nat} {ds : List Sd} {n : Nat} {it : Nat → D} (c : Nat) (P : Nat → List D → Prop) (hi : EvI G b b1 wi ds n it) (hn : n ≤ 100000) (h0 : P 0 [])
    (hs : ∀ i acc, i < n → P i acc → ∃ ds'', TgR G.K vs g (it i) (wipeD ds vs) ds'' ∧ ∀ b0, ∃ kp : Bool, EtD G (b0 + c) (b0 + c) tt ds'' kp ∧ (kp = true → EvS G true (b0 + c) b0 te ds'' (fun d => P (i + 1) (acc ++ [d]))) ∧ (kp = false → P (i + 1) acc))
    (hl : ∀ acc, P n acc → acc.length ≤ n) (hm : ∀ i acc, P i acc → acc.length ≤ i) (hb : b' + n * c ≤ b1) : EvO G b b' (tLc wi g tt te vs) ds (P n) := fun gs M H σ S Q k =>
  hi gs M H σ S _ fun J gs' H1 e l hg ok => fun D hD => by
    have S1 : Stt G.K G.H0 G.M0 (gs' ++ gs) M b1 H1 σ ds := (S.step e l).ghosts hg
    have nMD : ¬ M D := fun z => S1.liv D z hD
    refine ⟨fun i m H => m = n - i ∧ i ≤ n ∧ ∃ acc es, Ext H1 H ∧ Lim (b' + (n - i) * c) H ∧ H D = some (.lst acc) ∧ RpA G.K (msk (fun a => M a ∨ a = D) H) acc es ∧ P i es, ⟨n, by omega, Nat.zero_le _, [], [], Ext.new hD, (S1.lim.mono hb).upd (fun _ z => nomatch z), upd_same, .nil, h0⟩, ?_⟩
    rintro i m H2 ⟨rfl, hin, acc, es, e2, l2, hacc, racc, p2⟩
    have S2 : Stt G.K G.H0 G.M0 (gs' ++ gs) (fun a => M a ∨ a = D) (b' + (n - i) * c) H2 σ ds := S1.grow hD e2 l2 (by rw [hacc]; exact fun z => nomatch z)
    by_cases hlt : i < n
    · refine .inr ⟨ok.go i _ H2 S2.gh' hlt, fun H => ∃ acc es, Ext H1 H ∧ Lim (b' + (n - (i + 1)) * c) H ∧ H D = some (.lst acc) ∧ RpA G.K (msk (fun a => M a ∨ a = D) H) acc es ∧ P (i + 1) es, fun H' z => ⟨n - (i + 1), by omega, rfl, hlt, z⟩, fun x H3 y => ?_⟩
      obtain ⟨x1, x2, x3⟩ := ok.yld i _ H2 S2.gh' hlt x H3 y
      obtain ⟨ds'', t1, t2⟩ := hs i es hlt p2
      have ec : b' + (n - i) * c = (b' + (n - (i + 1)) * c) + c := by
        have e3 : n - i = (n - (i + 1)) + 1 := by omega
        rw [e3, Nat.add_mul, Nat.one_mul, Nat.add_assoc]
      have S3 := (S2.step x1 (x2 _ S2.lim)).wipe vs
      rw [ec] at S3
      refine t1 _ _ _ _ _ H3 _ x S3 x3 _ fun σ4 S4 ew => ⟨?_, ?_⟩
      · rw [ew]
        have ww : ∀ ws : List Nat, (∀ v ∈ ws, v ∈ vs) → L2.wipe (L2.wipe σ ws) vs = L2.wipe σ vs := fun ws => by
          induction ws with
          | nil => intro _; rfl
          | cons v ws ih =>
            intro hv
            show L2.wipe ((L2.wipe σ ws).set v none) vs = L2.wipe σ vs
            rw [wipe_in _ _ _ _ (hv v List.mem_cons_self), ih fun u hu => hv u (List.mem_cons_of_mem _ hu)]
        exact ww vs fun _ h => h
      · obtain ⟨kp, q1, q2, q3⟩ := t2 (b' + (n - (i + 1)) * c)
        refine q1 _ _ H3 σ4 S4 _ fun kp' H4 r4 e4 l4 => ?_
        subst r4
        have hacc4 : H4 D = some (.lst acc) := e4.keep _ _ (x1.keep _ _ hacc fun _ z => nomatch z) fun _ z => nomatch z
        cases kp' with
        | false =>
          show ∃ acc es, _
          exact ⟨acc, es, (e2.trans x1).trans e4, l4.mono (Nat.le_add_right _ _), hacc4, (racc.mono (msk_mono x1.toKp)).mono (msk_mono e4.toKp), q3 rfl⟩
        | true =>
          show te σ4 H4 _
          refine q2 rfl _ _ H4 σ4 (S4.step e4 l4) _ fun v d H5 r5 e5 l5 rp5 => ?_
          have hacc5 : H5 D = some (.lst acc) := e5.keep _ _ hacc4 fun _ z => nomatch z
          have len : acc.length ≤ n := by
            rw [racc.length]
            exact Nat.le_trans (hm i es p2) hin
          refine ⟨acc, hacc5, Nat.lt_of_le_of_lt (Nat.le_trans len hn) (by decide), acc ++ [v], es ++ [d], ?_, l5.upd (fun _ z => nomatch z), upd_same, ?_, r5⟩
          · exact (((e2.trans x1).trans e4).trans e5).mut hD
          · rw [msk_upd (.inr rfl)]
            exact (((racc.mono (msk_mono x1.toKp)).mono (msk_mono e4.toKp)).mono (msk_mono e5.toKp)).append (.cons rp5 .nil)
    · have en : i = n := by omega
      subst en
      refine .inl ⟨ok.stop _ H2 S2.gh', ?_⟩
      exact k D acc es H2 p2 (e.trans e2) (by have q := l2; rw [Nat.sub_self, Nat.zero_mul] at q; exact q) (e.free hD) hacc racc
theorem evs_lc {G : Gx} {p : Bool} {b b1 b' : Nat} {wi : TI} {g : TG} {tt : TT} {te : TE} {vs : List Nat} {ds : List Sd} {n : Nat} {it : Nat → D} (c : Nat) (P : Nat → List D → Prop) (hi : EvI G b b1 wi ds n it) (hn : n ≤ 100000) (h0 : P 0 [])
    (hs : ∀ i acc, i < n → P i acc → ∃ ds'', TgR G.K vs g (it i) (wipeD ds vs) ds'' ∧ ∀ b0, ∃ kp : Bool, EtD G (b0 + c) (b0 + c) tt ds'' kp ∧ (kp = true → EvS G true (b0 + c) b0 te ds'' (fun d => P (i + 1) (acc ++ [d]))) ∧ (kp = false → P (i + 1) acc))
    (hl : ∀ acc, P n acc → acc.length ≤ n) (hm : ∀ i acc, P i acc → acc.length ≤ i) (hb : b' + n * c ≤ b1) : EvS G p b b' (tLc wi g tt te vs) ds (fun d => ∃ acc, d = .lst acc ∧ P n acc) := (eos_lc c P hi hn h0 hs hl hm hb).evs
/-- each item by f, those that kp lets by; nothing drawn -/
theorem ev_lc {G : Gx} {p : Bool} {b b' : Nat} {wi : TI} {g : TG} {tt : TT} {te : TE} {vs : List Nat} {ds : List Sd} {n : Nat} {it : Nat → D} (kp : Nat → Bool) (f : Nat → D) (hi : EvI G b b' wi ds n it) (hn : n ≤ 100000)
    (hs : ∀ i, i < n → ∃ ds'', TgR G.K vs g (it i) (wipeD ds vs) ds'' ∧ ∀ b0, EtD G b0 b0 tt ds'' (kp i) ∧ (kp i = true → EvD G true b0 b0 te ds'' (f i))) : EvD G p b b' (tLc wi g tt te vs) ds (.lst (((List.range n).filter kp).map f)) := by
  refine (evs_lc 0 (fun i acc => acc = ((List.range i).filter kp).map f) hi hn rfl ?_ ?_ ?_ (by omega)).imp fun d ⟨acc, e1, e2⟩ => by rw [e1, e2]
  · intro i acc hlt e
    obtain ⟨ds'', t1, t2⟩ := hs i hlt
    refine ⟨ds'', t1, fun b0 => ⟨kp i, (t2 _).1, fun h => ((t2 b0).2 h).imp fun d ed => ?_, fun h => ?_⟩⟩
    · rw [ed, e, List.range_succ, List.filter_append, List.map_append]
      simp [h]
    · rw [e, List.range_succ, List.filter_append, List.map_append]
      simp [h]
  · intro acc e
    rw [e, List.length_map]
    exact Nat.le_trans (List.length_filter_le _ _) (by rw [List.length_range]; exact Nat.le_refl _)
  · intro i acc e
    rw [e, List.length_map]
    exact Nat.le_trans (List.length_filter_le _ _) (by rw [List.length_range]; exact Nat.le_refl _)
theorem et_yes {G : Gx} {b : Nat} {ds : List Sd} : EtD G b b tYes ds true := fun gs M H σ S Q k => k true H rfl (Ext.refl H) S.lim
/-- without a test -/
theorem ev_lc1 {G : Gx} {p : Bool} {b b' : Nat} {wi : TI} {g : TG} {te : TE} {vs : List Nat} {ds : List Sd} {n : Nat} {it : Nat → D} (f : Nat → D) (hi : EvI G b b' wi ds n it) (hn : n ≤ 100000)
    (hs : ∀ i, i < n → ∃ ds'', TgR G.K vs g (it i) (wipeD ds vs) ds'' ∧ ∀ b0, EvD G true b0 b0 te ds'' (f i)) : EvD G p b b' (tLc wi g tYes te vs) ds (.lst ((List.range n).map f)) := by
  have h := ev_lc (tt := tYes) (p := p) (fun _ => true) f hi hn fun i hlt => let ⟨ds'', t1, t2⟩ := hs i hlt; ⟨ds'', t1, fun b0 => ⟨et_yes, fun _ => t2 b0⟩⟩
  have e : (List.range n).filter (fun _ => true) = List.range n := List.filter_eq_self.mpr fun _ _ => rfl
  rw [e] at h
  exact h
end Sh

/-! Sh6: operators and built-ins by data. -/
namespace Sh
open PySem PySem.Spec PyProof.Rows L2

/-! ### several kinds at once -/
def rAddS : R2 := fun x y H Q => ∃ i j, x = .str i ∧ y = .str j ∧ i.length + j.length ≤ sizeLine ∧ Q (.str (i ++ j)) H
def rAddA (K : PySem.W.Frag) : R2 := fun x y H Q => rI0 (fun i j => V.int (i + j)) x y H Q ∨ rAddS x y H Q ∨ rCat x y H Q ∨ rCatA K x y H Q
def rSubA : R2 := rI0 fun i j => V.int (i - j)
def rMulA : R2 := fun x y H Q => rI CMulW (fun i j => V.int (i * j)) x y H Q ∨ rRep x y H Q
def rDivA : R2 := rI CDivW fun i j => V.int (i / j)
def rModA : R2 := rI (fun _ j => 0 < j) fun i j => V.int (i % j)
def rPowA : R2 := rI CPowW fun i j => V.int (i ^ j.toNat)
def rLtS (f : List Nat → List Nat → Bool) : R2 := fun x y H Q => ∃ i j, x = .str i ∧ y = .str j ∧ Q (.bl (f i.cps.toList j.cps.toList)) H
def rLt : R2 := rI0 fun i j => V.bl (decide (i < j))
def rLe : R2 := rI0 fun i j => V.bl (decide (i ≤ j))
def rGt : R2 := rI0 fun i j => V.bl (decide (j < i))
def rGe : R2 := rI0 fun i j => V.bl (decide (j ≤ i))
section
variable {X : Cx}
theorem op_addA : OpR X (binaryOp .Add) (rAddA X.K) := op_add.or (op_add_str.or (op_cat.or op_catA))
theorem op_subA : OpR X (binaryOp .Sub) rSubA := op_sub
theorem op_mulA : OpR X (binaryOp .Mult) rMulA := op_mulW.or op_rep
theorem op_divA : OpR X (binaryOp .FloorDiv) rDivA := op_fdivW
theorem op_modA : OpR X (binaryOp .Mod) rModA := op_mod
theorem op_powA : OpR X (binaryOp .Pow) rPowA := op_powW
theorem op_ltA : OpR X (compareOp .Lt) rLt := op_lt
theorem op_leA : OpR X (compareOp .LtE) rLe := op_le
theorem op_gtA : OpR X (compareOp .Gt) rGt := op_gt
theorem op_geA : OpR X (compareOp .GtE) rGe := op_ge
end
theorem iop_of {op : Operator} {X : Cx} {r : R2} (h : OpR X (inplaceOp op) r) : PIp X op r := h

/-! ### ints -/
section
variable {K : PySem.W.Frag} {i j : Int}
theorem op2_I0 {g : Int → Int → V} {z : D} (h : ∀ H, Rp K H (g i j) z) : Op2D K (rI0 g) (.int i) (.int j) z := fun N b H v u Q hN l r1 r2 k => by
  cases r1
  cases r2
  exact ⟨i, j, rfl, rfl, k _ _ H rfl (Ext.refl H) l (h _)⟩
theorem op2_I {C : Int → Int → Prop} {g : Int → Int → V} {z : D} (hc : C i j) (h : ∀ H, Rp K H (g i j) z) : Op2D K (rI C g) (.int i) (.int j) z := fun N b H v u Q hN l r1 r2 k => by
  cases r1
  cases r2
  exact ⟨i, j, rfl, rfl, hc, k _ _ H rfl (Ext.refl H) l (h _)⟩
theorem Op2.inl {r r' : R2} {x y : D} {R : D → Prop} (h : Op2 K r x y R) : Op2 K (fun x y H Q => r x y H Q ∨ r' x y H Q) x y R := fun N b H v u Q hN l r1 r2 k => .inl (h N b H v u Q hN l r1 r2 k)
theorem Op2.inr {r r' : R2} {x y : D} {R : D → Prop} (h : Op2 K r' x y R) : Op2 K (fun x y H Q => r x y H Q ∨ r' x y H Q) x y R := fun N b H v u Q hN l r1 r2 k => .inr (h N b H v u Q hN l r1 r2 k)
theorem o_add : Op2D K (rAddA K) (.int i) (.int j) (.int (i + j)) := Op2.inl (op2_I0 fun _ => .int _)
theorem o_sub : Op2D K rSubA (.int i) (.int j) (.int (i - j)) := op2_I0 fun _ => .int _
theorem o_mul (h : CMulW i j) : Op2D K rMulA (.int i) (.int j) (.int (i * j)) := Op2.inl (op2_I h fun _ => .int _)
theorem o_div (h : CDivW i j) : Op2D K rDivA (.int i) (.int j) (.int (i / j)) := op2_I h fun _ => .int _
theorem o_mod (h : 0 < j) : Op2D K rModA (.int i) (.int j) (.int (i % j)) := op2_I h fun _ => .int _
theorem o_pow (h : CPowW i j) : Op2D K rPowA (.int i) (.int j) (.int (i ^ j.toNat)) := op2_I h fun _ => .int _
theorem o_lt : Op2D K rLt (.int i) (.int j) (.bl (decide (i < j))) := op2_I0 fun _ => .bl _
theorem o_le : Op2D K rLe (.int i) (.int j) (.bl (decide (i ≤ j))) := op2_I0 fun _ => .bl _
theorem o_gt : Op2D K rGt (.int i) (.int j) (.bl (decide (j < i))) := op2_I0 fun _ => .bl _
theorem o_ge : Op2D K rGe (.int i) (.int j) (.bl (decide (j ≤ i))) := op2_I0 fun _ => .bl _
theorem u_neg : Op1D K (rU fun i => V.int (-i)) (.int i) (.int (-i)) := fun N b H v Q hN l r k => by
  cases r
  exact ⟨i, rfl, k _ _ H rfl (Ext.refl H) l (.int _)⟩
end
/-- a product of small numbers: by the bounds -/
theorem cmul_of {i j : Int} (a b : Nat) (ha : i.natAbs < 2 ^ a) (hb : j.natAbs < 2 ^ b) (h : a + b ≤ 1000000 := by decide) (h0 : 0 < a := by decide) (h1 : 0 < b := by decide) : CMulW i j := wide_mul ha hb h0 h1 h

/-! ### == -/
mutual
/-- data without objects of one's own -/
def D.py : D → PyData
  | .non => .none
  | .bl b => .bool b
  | .int i => .int i
  | .str s => .str s
  | .lst xs => .list (D.pyA xs)
  | .tup xs => .tuple (D.pyA xs)
  | _ => .dict []
def D.pyA : List D → List PyData
  | [] => []
  | x :: xs => x.py :: D.pyA xs
end
mutual
/-- no deeper than n, no objects of one's own, texts of signs -/
def D.shp : Nat → D → Bool
  | _, .non => true
  | _, .bl _ => true
  | _, .int _ => true
  | _, .str s => PyData.canLay0 (.str s)
  | 0, .lst _ => false
  | n + 1, .lst xs => D.shpA n xs
  | 0, .tup _ => false
  | n + 1, .tup xs => D.shpA n xs
  | _, _ => false
def D.shpA : Nat → List D → Bool
  | _, [] => true
  | n, x :: xs => D.shp n x && D.shpA n xs
end
mutual
theorem shp_lay : ∀ (n : Nat) (d : D), D.shp n d = true → d.py.canLay0 = true ∧ d.py.depth ≤ n
  | n, .non, _ => ⟨rfl, by simp only [D.py, PyData.depth]; omega⟩
  | n, .bl b, _ => ⟨rfl, by simp only [D.py, PyData.depth]; omega⟩
  | n, .int b, _ => ⟨rfl, by simp only [D.py, PyData.depth]; omega⟩
  | n, .str b, h => ⟨by simpa [D.shp, D.py] using h, by simp only [D.py, PyData.depth]; omega⟩
  | 0, .lst xs, h => by simp [D.shp] at h
  | n + 1, .lst xs, h => by
    have q := shpA_lay n xs (by simpa [D.shp] using h)
    exact ⟨by simp only [D.py, PyData.canLay0]; exact q.1, by simp only [D.py, PyData.depth]; omega⟩
  | 0, .tup xs, h => by simp [D.shp] at h
  | n + 1, .tup xs, h => by
    have q := shpA_lay n xs (by simpa [D.shp] using h)
    exact ⟨by simp only [D.py, PyData.canLay0]; exact q.1, by simp only [D.py, PyData.depth]; omega⟩
  | n, .dct _, h => by simp [D.shp] at h
  | n, .dtt _, h => by simp [D.shp] at h
  | n, .ins _ _, h => by simp [D.shp] at h
  | n, .exc _ _, h => by simp [D.shp] at h
  | n, .purse, h => by simp [D.shp] at h
  | n, .scr _, h => by simp [D.shp] at h
  | n, .ref _, h => by simp [D.shp] at h
  | n, .ty _, h => by simp [D.shp] at h
theorem shpA_lay : ∀ (n : Nat) (xs : List D), D.shpA n xs = true → PyData.canLayAll0 (D.pyA xs) = true ∧ PyData.depthAll (D.pyA xs) ≤ n
  | n, [], _ => ⟨rfl, by simp only [D.pyA, PyData.depthAll]; omega⟩
  | n, x :: xs, h => by
    simp only [D.shpA, Bool.and_eq_true] at h
    have q1 := shp_lay n x h.1
    have q2 := shpA_lay n xs h.2
    exact ⟨by simp only [D.pyA, PyData.canLayAll0, q1.1, q2.1, Bool.and_self], by simp only [D.pyA, PyData.depthAll]; exact Nat.max_le.mpr ⟨q1.2, q2.2⟩⟩
end
theorem shp_shaped {d : D} (h : D.shp 64 d = true) : SeqAt.shaped d.py = true := by
  obtain ⟨h1, h2⟩ := shp_lay 64 d h
  unfold SeqAt.shaped
  rw [h1, decide_eq_true h2]
  rfl
mutual
theorem Rp.dp {K : PySem.W.Frag} {H : Hp} : ∀ {n : Nat} {d : D} {v : V}, Rp K H v d → D.shp n d = true → Dp K H v d.py
  | _, .non, _, .non, _ => .non
  | _, .bl b, _, .bl _, _ => .bl b
  | _, .int b, _, .int _, _ => .int b
  | _, .str b, _, .str _, _ => .str b
  | 0, .lst _, _, _, h => by simp [D.shp] at h
  | n + 1, .lst xs, _, .lst ha r, h => .lst (SqL.of ha) (RpA.dp r (by simpa [D.shp] using h))
  | 0, .tup _, _, _, h => by simp [D.shp] at h
  | n + 1, .tup xs, _, .tup ha r, h => .tup ha (RpA.dp r (by simpa [D.shp] using h))
  | _, .dct _, _, _, h => by simp [D.shp] at h
  | _, .dtt _, _, _, h => by simp [D.shp] at h
  | _, .ins _ _, _, _, h => by simp [D.shp] at h
  | _, .exc _ _, _, _, h => by simp [D.shp] at h
  | _, .purse, _, _, h => by simp [D.shp] at h
  | _, .scr _, _, _, h => by simp [D.shp] at h
  | _, .ref _, _, _, h => by simp [D.shp] at h
  | _, .ty _, _, _, h => by simp [D.shp] at h
theorem RpA.dp {K : PySem.W.Frag} {H : Hp} : ∀ {n : Nat} {ds : List D} {vs : List V}, RpA K H vs ds → D.shpA n ds = true → DpAll K H vs (D.pyA ds)
  | _, [], _, .nil, _ => .nil
  | n, d :: ds, _, .cons r rr, h => by
    simp only [D.shpA, Bool.and_eq_true] at h
    exact .cons (Rp.dp r h.1) (RpA.dp rr h.2)
end
def D.eq (x y : D) : Bool := PyData.eqv x.py y.py
section
variable {X : Cx}
theorem op_eqA (hu : X.A.units + 64 < cLine) : OpR X (compareOp .Eq) (rEqD X.K) := op_eqD hu
theorem op_neA (hu : X.A.units + 64 < cLine) : OpR X (compareOp .NotEq) (rNeD X.K) := op_neD hu
end
theorem o_eq {K : PySem.W.Frag} {x y : D} (hx : D.shp 64 x = true) (hy : D.shp 64 y = true) : Op2D K (rEqD K) x y (.bl (D.eq x y)) := fun N b H v u Q hN l r1 r2 k =>
  ⟨x.py, y.py, (r1.mono msk_all).dp hx, (r2.mono msk_all).dp hy, shp_shaped hx, shp_shaped hy, k _ _ H rfl (Ext.refl H) l (.bl _)⟩
theorem o_ne {K : PySem.W.Frag} {x y : D} (hx : D.shp 64 x = true) (hy : D.shp 64 y = true) : Op2D K (rNeD K) x y (.bl (!D.eq x y)) := fun N b H v u Q hN l r1 r2 k =>
  ⟨x.py, y.py, (r1.mono msk_all).dp hx, (r2.mono msk_all).dp hy, shp_shaped hx, shp_shaped hy, k _ _ H rfl (Ext.refl H) l (.bl _)⟩
theorem eq_int (i j : Int) : D.eq (.int i) (.int j) = decide (i = j) := by
  simp only [D.eq, D.py, PyData.eqv]
  exact Bool.beq_eq_decide_eq i j
theorem o_eqI {K : PySem.W.Frag} {i j : Int} : Op2D K (rEqD K) (.int i) (.int j) (.bl (decide (i = j))) := by
  rw [← eq_int]
  exact o_eq rfl rfl
theorem o_neI {K : PySem.W.Frag} {i j : Int} : Op2D K (rNeD K) (.int i) (.int j) (.bl (!decide (i = j))) := by
  rw [← eq_int]
  exact o_ne rfl rfl

/-! ### items -/
section
variable {K : PySem.W.Frag}
theorem atI_nn {α : Type} {xs : List α} {i : Int} {x : α} (h0 : 0 ≤ i) (h : xs[i.toNat]? = some x) : atI xs i = some x := by
  have hl : i.toNat < xs.length := (List.getElem?_eq_some_iff.mp h).1
  unfold atI ixN
  rw [if_pos h0, if_pos (by omega)]
  exact h
theorem atI_neg {α : Type} {xs : List α} {i : Int} {x : α} (h0 : i < 0) (h1 : -(xs.length : Int) ≤ i) (h : xs[(i + xs.length).toNat]? = some x) : atI xs i = some x := by
  unfold atI ixN
  rw [if_neg (by omega), if_pos h1]
  exact h
theorem RpA.atI {H : Hp} {vs : List V} {ds : List D} {i : Int} {d : D} (r : RpA K H vs ds) (h : L2.atI ds i = some d) : ∃ v, L2.atI vs i = some v ∧ Rp K H v d := by
  unfold L2.atI at h ⊢
  rw [r.length]
  cases e : ixN ds.length i with
  | none => rw [e] at h; cases h
  | some j =>
    rw [e] at h
    obtain ⟨v, h1, h2⟩ := r.getD (i := j) h
    exact ⟨v, h1, h2⟩
def rDGetA : R2 := fun x y H Q => ∃ a v, x = .ref a ∧ DGet H a y (some v) ∧ Q v H
def rIxA (K : PySem.W.Frag) : R2 := fun x y H Q => rIxL K x y H Q ∨ rIxT K x y H Q ∨ rIxS x y H Q ∨ rDGetA x y H Q
theorem ix_dict {X : Cx} (hu : X.A.units + 1 < cLine) : IxR X rDGetA := by
  intro value slice pins s σ H x y v u Q I rx ry h hs
  obtain ⟨a, w, rfl, g, q⟩ := h
  obtain rfl : v = Value.ref a := rx
  have hT := dict_typeIs I g
  have h₂ : wpAny (model X.prog X.w) X.A (getItem (.ref a) u) (EP X pins σ Q) X.xe s := d_getItem hu I g ry fun w' s3 I3 rw' => ⟨w, H, I3, rw', q⟩
  unfold subscriptTail
  refine wpAny_bind ?_
  rw [getitemInPython_of_ne hT.not_modules]
  refine wpAny_bind (wpAny_specialOf hT PySem.F.slot_dict_getitem.lookup ?_)
  have fin : wpAny (model X.prog X.w) X.A (subscripted slice false (.ref a) u) (fun r s₃ => wpAny (model X.prog X.w) X.A (letTemporaryGo value (.ref a) r >>= fun _ => pure r) (EP X pins σ Q) X.xe s₃) X.xe s := by
    rw [hs]
    exact wpAny_operating (wpAny_mono h₂ (fun r s₃ h₃ => wpAny_bind (wpAny_letTemporaryGo (wpAny_pure h₃))) fun _ _ x => x)
  first
    | exact wpAny_pure (wpAny_bind fin)
    | exact wpAny_bind fin
theorem IxR.or' {X : Cx} {r r' : R2} (h : IxR X r) (h' : IxR X r') : IxR X (fun x y H Q => r x y H Q ∨ r' x y H Q) := h.or h'
theorem ix_any {X : Cx} (hu : X.A.units + 1 < cLine) : IxR X (rIxA X.K) := IxR.or' ix_list (IxR.or' ix_tup (IxR.or' ix_str (ix_dict hu)))
theorem o_ixL {xs : List D} {i : Int} {d : D} (h : L2.atI xs i = some d) : Op2D K (rIxA K) (.lst xs) (.int i) d := fun N b H v u Q hN l r1 r2 k => by
  cases r2
  cases r1 with
  | lst ha r =>
    obtain ⟨w, h1, h2⟩ := r.atI h
    exact .inl ⟨_, _, i, w, rfl, rfl, SqL.of (msk_of ha).2, h1, k _ _ H rfl (Ext.refl H) l h2⟩
theorem o_ixT {xs : List D} {i : Int} {d : D} (h : L2.atI xs i = some d) : Op2D K (rIxA K) (.tup xs) (.int i) d := fun N b H v u Q hN l r1 r2 k => by
  cases r2
  cases r1 with
  | tup ha r =>
    obtain ⟨w, h1, h2⟩ := r.atI h
    exact .inr (.inl ⟨_, _, i, w, rfl, rfl, sqt_unm ha, h1, k _ _ H rfl (Ext.refl H) l h2⟩)
theorem o_ixR {ns : List Int} {i : Int} {d : Int} (h : L2.atI ns i = some d) : Op2D K (rIxA K) (.scr ns) (.int i) (.int d) := fun N b H v u Q hN l r1 r2 k => by
  cases r2
  cases r1 with
  | scr ha =>
    refine .inl ⟨_, _, i, .int d, rfl, rfl, (sql_unm ha.sq), ?_, k _ _ H rfl (Ext.refl H) l (.int _)⟩
    unfold L2.atI at h ⊢
    rw [List.length_map]
    cases e : ixN ns.length i with
    | none => rw [e] at h; cases h
    | some j =>
      rw [e] at h
      show (ns.map V.int)[j]? = some (.int d)
      have h' : ns[j]? = some d := h
      rw [List.getElem?_map, h']
      rfl
end

/-! ### built-ins -/
section
variable {K : PySem.W.Frag}
def rMax2 : List V → Hp → VK → Prop := fun xs H Q => ∃ i j, xs = [.int i, .int j] ∧ Q (.int (if j > i then j else i)) H
def rMin2 : List V → Hp → VK → Prop := fun xs H Q => ∃ i j, xs = [.int i, .int j] ∧ Q (.int (if j < i then j else i)) H
theorem call_max2' {X : Cx} (hc : X.calm = true) : CallR X (.builtin "max") rMax2 := call_max2 hc
theorem call_min2' {X : Cx} (hc : X.calm = true) : CallR X (.builtin "min") rMin2 := call_min2 hc
theorem c_max {i j : Int} : ClD K rMax2 [.int i, .int j] (.int (max i j)) := fun N b H vs Q hN l r k => by
  cases r with
  | cons r1 r => cases r with | cons r2 r => cases r; cases r1; cases r2; exact ⟨i, j, rfl, k _ _ H rfl (Ext.refl H) l (by
      have e : (if j > i then j else i) = max i j := by split <;> omega
      rw [e]; exact .int _)⟩
theorem c_min {i j : Int} : ClD K rMin2 [.int i, .int j] (.int (min i j)) := fun N b H vs Q hN l r k => by
  cases r with
  | cons r1 r => cases r with | cons r2 r => cases r; cases r1; cases r2; exact ⟨i, j, rfl, k _ _ H rfl (Ext.refl H) l (by
      have e : (if j < i then j else i) = min i j := by split <;> omega
      rw [e]; exact .int _)⟩
def rLen (K : PySem.W.Frag) : List V → Hp → VK → Prop := fun xs H Q => ∃ x n, xs = [x] ∧ LenV K x H n ∧ Q (.int n) H
theorem call_len' {X : Cx} : CallR X (.builtin "len") (rLen X.K) := call_len
theorem c_lenL {xs : List D} : ClD K (rLen K) [.lst xs] (.int (xs.length : Int)) := fun N b H vs Q hN l r k => by
  cases r with
  | cons r1 r =>
    cases r
    cases r1 with
    | lst ha r => exact ⟨_, xs.length, rfl, .inl ⟨_, SqL.of (msk_of ha).2, r.length.symm⟩, k _ _ H rfl (Ext.refl H) l (.int _)⟩
theorem c_lenT {xs : List D} : ClD K (rLen K) [.tup xs] (.int (xs.length : Int)) := fun N b H vs Q hN l r k => by
  cases r with
  | cons r1 r =>
    cases r
    cases r1 with
    | tup ha r => exact ⟨_, xs.length, rfl, .inr ⟨_, sqt_unm ha, r.length.symm⟩, k _ _ H rfl (Ext.refl H) l (.int _)⟩
theorem c_lenR {ns : List Int} : ClD K (rLen K) [.scr ns] (.int (ns.length : Int)) := fun N b H vs Q hN l r k => by
  cases r with
  | cons r1 r =>
    cases r
    cases r1 with
    | scr ha => exact ⟨_, ns.length, rfl, .inl ⟨_, (sql_unm ha.sq), by rw [List.length_map]⟩, k _ _ H rfl (Ext.refl H) l (.int _)⟩
def CDivm (i j : Int) : Prop := 0 < j ∧ Builtin.divisionGoesByPylong i j = false
def rDivm : List V → Hp → VK → Prop := fun xs H Q => ∃ i j, xs = [.int i, .int j] ∧ CDivP i j ∧ ∀ p, H p = none → Q (.ref p) (upd H p (.tup [.int (i / j), .int (i % j)]))
theorem call_divm {X : Cx} : CallR X (.builtin "divmod") rDivm := call_divmodW
theorem c_divm {i j : Int} (h : 0 < j) (h9 : j < 1073741824) : ClD K rDivm [.int i, .int j] (.tup [.int (i / j), .int (i % j)]) := fun N b H vs Q hN l r k => by
  cases r with
  | cons r1 r => cases r with | cons r2 r => cases r; cases r1; cases r2; exact ⟨i, j, rfl, ⟨h, PyProof.noPylong_small (by omega)⟩, fun p hp => k _ _ _ rfl (Ext.new hp) (l.upd fun _ z => nomatch z) (new_tup hN hp (.cons (.int _) (.cons (.int _) .nil)))⟩
end
end Sh

/-! Sh7: a source of draws: three numbers in a list, told as a thing that gives any number below a bound. -/
namespace Sh
open PySem PySem.Spec PyProof.Rows L2

theorem vals3 {x y z : V} {us : List Value} (r : Vals [x, y, z] us) : Vals [x, y, z] us := r
/-- a list of three numbers seen as a source -/
theorem purse_ok {P : Program} {w : World} {H H2 : Hp} {h : Heap} {a : Addr} {x y z : Int} {n : Nat} (q : ObjOk P w H h a (.lst [.int x, .int y, .int z])) (g : PGood n x y z) : ObjOk P w H2 h a (PurseO a n) := by
  obtain ⟨_, its, m, rv, e⟩ := q
  exact ⟨⟨x, y, z, g, its, m, rv, e⟩, ⟨_, e⟩, fun h1 h2 ⟨x, y, z, g, its, m, rv, e⟩ k => ⟨x, y, z, g, its, m, rv, k _ e⟩⟩
theorem ObjOk.other {P : Program} {w : World} {H H2 : Hp} {h : Heap} {a : Addr} {o : HO} (q : ObjOk P w H h a o) (h1 : ∀ b, H b = some (.own a) → H2 b = some (.own a)) (h2 : ∀ b xs, H b = some (.tup xs) → H2 b = some (.tup xs)) : ObjOk P w H2 h a o :=
  q.stay (fun _ _ _ e => e) h1 h2
/-- a change of view at p, of things that no other leans on -/
theorem HOk.view {P : Program} {w : World} {H : Hp} {h : Heap} {p : Addr} {o o' : HO} (ok : HOk P w H h) (hp : H p = some o) (n1 : ∀ a, o ≠ .own a) (n2 : ∀ xs, o ≠ .tup xs) (new : ObjOk P w (upd H p o') h p o') : HOk P w (upd H p o') h := fun b u e => by
  by_cases hb : b = p
  · subst hb
    rw [upd_same] at e
    cases e
    exact new
  · rw [upd_ne hb] at e
    refine ObjOk.other (ok b u e) (fun c q => ?_) fun c xs q => ?_
    · have nc : c ≠ p := fun z => by
        rw [z, hp] at q
        exact n1 _ (Option.some.inj q)
      rw [upd_ne nc]
      exact q
    · have nc : c ≠ p := fun z => by
        rw [z, hp] at q
        exact n2 _ (Option.some.inj q)
      rw [upd_ne nc]
      exact q
section
variable {P : Program} {w : World} {K : PySem.W.Frag} {mg : Str → Option Value} {base : Heap} {k : Nat} {f : Addr} {fd : FuncData} {ps : List Str}
/-- purse, many: any number from 0 on below many -/
def fdDraw : Fd := { n := 2, dom := fun ds => ∃ m : Int, ds = [.purse, .int m] ∧ 0 < m ∧ m < 2 ^ 200, cost := fun _ => 1, res := fun ds d => ∃ m i : Int, ds = [.purse, .int m] ∧ d = .int i ∧ 0 ≤ i ∧ i < m }
/-- the heap without p -/
def hidp (p : Addr) (H : Hp) : Hp := fun a => if a = p then none else H a
theorem hidp_same {p : Addr} {H : Hp} : hidp p H p = none := if_pos rfl
theorem hidp_ne {p a : Addr} {H : Hp} (h : a ≠ p) : hidp p H a = H a := if_neg h
theorem hidp_of {p a : Addr} {H : Hp} {o : HO} (h : hidp p H a = some o) : a ≠ p ∧ H a = some o := by
  by_cases e : a = p
  · rw [e, hidp_same] at h; cases h
  · rw [hidp_ne e] at h; exact ⟨e, h⟩
def spDrawC : Sp := fun vs H Q _ => ∃ (p : Addr) (x y z m : Int) (n b : Nat), vs = [.ref p, .int m] ∧ 0 < m ∧ m < 2 ^ 200 ∧ H p = some (.lst [.int x, .int y, .int z]) ∧ PGood n x y z ∧ n < LIM ∧ Lim b H ∧
  ∀ (i x' y' z' : Int) (H' : Hp), 0 ≤ i → i < m → PGood (n + 1) x' y' z' → Ext (hidp p H) H' → Lim b H' → H' p = some (.lst [.int x', .int y', .int z']) → Q (.int i) H'
theorem draw_view (F : FnOk P w K mg base (L2.CX P w) k f fd ps spDrawC) (hps : ps.length = 2) : FnOk P w K mg base (L2.CX P w) k f fd ps (SpD K fdDraw) := by
  refine ⟨SpD.len (F := fdDraw) hps, fun A outer s H args us vs Q E hr e0 hb r hsp => ?_⟩
  obtain ⟨ds, N, b, a1, ⟨n0, a2, a3⟩, a4, _, ⟨m, rfl, hm0, hm1⟩, a6, _⟩ := hsp
  cases a4 with
  | cons r1 a4 =>
    cases a4 with
    | cons r2 a4 =>
      cases a4
      cases r2
      cases r1 with
      | @purse p n hp0 =>
        have hp1 := (msk_of hp0).2
        have hN := (msk_of hp0).1
        obtain ⟨c, hc, ec⟩ := a2 p _ hp1
        have hp : H p = some (PurseO p c) := by rw [← ec]; exact hp1
        obtain ⟨⟨x, y, z, g, its, k', rv, eh⟩, _, _⟩ := e0.hok p _ hp
        have okH : HOk P w (upd H p (.lst [.int x, .int y, .int z])) s.heap := HOk.view e0.hok hp (fun _ q => nomatch q) (fun _ q => nomatch q) ⟨by show 3 ≤ sizeLine; decide, its, k', rv, eh⟩
        have nz : ∀ b, H b = none → (upd H p (.lst [.int x, .int y, .int z])) b = none := fun b h => by
          rw [upd_ne (fun q => by rw [q, hp] at h; cases h)]
          exact h
        have e1 : Env0 P w K mg base A outer s (upd H p (.lst [.int x, .int y, .int z])) := ⟨e0.frames, e0.mod, fun b o q => ⟨(e0.bs b o q).1, nz b (e0.bs b o q).2⟩, e0.bsz, e0.funs, fun b q => nz b (e0.frf b q), okH, e0.bare⟩
        have hc1 : c + 1 + b ≤ LIM := by
          have h3 : n0 + (1 + b) ≤ LIM := a3
          omega
        have limL : Lim (1 + b) (upd H p (.lst [.int x, .int y, .int z])) := ⟨n0, fun a φ ha => by
          by_cases na : a = p
          · rw [na, upd_same] at ha; exact nomatch ha
          · rw [upd_ne na] at ha; exact a2 a φ ha, a3⟩
        have hidu : hidp p (upd H p (.lst [.int x, .int y, .int z])) = hidp p H := by
          funext a
          by_cases na : a = p
          · rw [na, hidp_same, hidp_same]
          · rw [hidp_ne na, hidp_ne na, upd_ne na]
        refine codeAny_mono (F.run A outer s _ args us [.ref p, .int m] (fun v H' => ∃ (i x' y' z' : Int), v = .int i ∧ 0 ≤ i ∧ i < m ∧ PGood (c + 1) x' y' z' ∧ Ext (hidp p H) H' ∧ Lim (1 + b) H' ∧ H' p = some (.lst [.int x', .int y', .int z'])) (fun _ _ _ => False) hr e1 hb r
          ⟨p, x, y, z, m, c, 1 + b, rfl, hm0, hm1, upd_same, g, by omega, limL, fun i x' y' z' H' h1 h2 h3 h4 h5 h6 => ⟨i, x', y', z', rfl, h1, h2, h3, by rw [← hidu]; exact h4, h5, h6⟩⟩) fun res s' hq => ?_
        cases res with
        | error e =>
          obtain ⟨a, B, H', cls, d, q1, q2, q3, q4, q5, q6, q7, q8⟩ := hq
          exact q8.elim
        | ok fl =>
          cases fl with
          | next => exact False.elim hq
          | brk => exact False.elim hq
          | cont => exact False.elim hq
          | ret u =>
            obtain ⟨v, H', os, bare, un, hok, rel, i, x', y', z', rfl, i0, i1, g', ex, ⟨n1, l1, l2⟩, hp'⟩ := hq
            have np : ∀ b, H b = none → b ≠ p := fun b h q => by rw [q, hp] at h; cases h
            have ext : Ext H (upd H' p (PurseO p (c + 1))) := ⟨⟨fun a o ha no => by
                have na : a ≠ p := fun q => by rw [q, hp] at ha; exact no _ (Option.some.inj ha).symm
                rw [upd_ne na]
                exact ex.keep a o (by rw [hidp_ne na]; exact ha) no, fun a j ha => by
                by_cases na : a = p
                · exact ⟨c + 1, by rw [na]; exact upd_same⟩
                · obtain ⟨j', hj⟩ := ex.pz a j (by rw [hidp_ne na]; exact ha)
                  exact ⟨j', by rw [upd_ne na]; exact hj⟩⟩, fun a ha => by
                by_cases na : a = p
                · rw [na, upd_same]; exact fun q => nomatch q
                · rw [upd_ne na]; exact ex.dom a (by rw [hidp_ne na]; exact ha)⟩
            have lim : Lim b (upd H' p (PurseO p (c + 1))) := ⟨max n1 (c + 1), fun a φ ha => by
                by_cases na : a = p
                · rw [na, upd_same] at ha
                  exact ⟨c + 1, Nat.le_max_right _ _, by rw [na]; exact (Option.some.inj ha).symm⟩
                · rw [upd_ne na] at ha
                  obtain ⟨j, h1, h2⟩ := l1 a φ ha
                  exact ⟨j, Nat.le_trans h1 (Nat.le_max_left _ _), h2⟩, by
                have h3 : n1 + (1 + b) ≤ LIM := l2
                omega⟩
            refine ⟨.int i, upd H' p (PurseO p (c + 1)), os, bare, ⟨fun b o q n hb hx => un.keep b o q (nz b n) hb hx, fun b o q n hb hx => un.slot b o q (nz b n) hb hx, fun b o q n hx => ?_, un.there, fun b xs q => ?_, fun b o xs q => ?_, fun b ps q => ?_⟩, ?_, rel, a6 _ _ _ ⟨m, i, rfl, rfl, i0, i1⟩ ext lim (.int i) (fun z => nomatch z)⟩
            · rw [upd_ne (np b n)]
              exact un.free b o q (nz b n) hx
            · have nb : b ≠ p := fun e => by rw [e, hp] at q; exact nomatch q
              rw [upd_ne nb]
              exact un.tups b xs (by rw [upd_ne nb]; exact q)
            · have nb : b ≠ p := fun e => by rw [e, hp] at q; exact nomatch q
              rw [upd_ne nb]
              exact un.frzs b o xs (by rw [upd_ne nb]; exact q)
            · have nb : b ≠ p := fun e => by rw [e, hp] at q; exact nomatch q
              obtain ⟨more, h⟩ := un.tbls b ps (by rw [upd_ne nb]; exact q)
              exact ⟨more, by rw [upd_ne nb]; exact h⟩
            · exact HOk.view hok hp' (fun _ q => nomatch q) (fun _ q => nomatch q) (purse_ok (hok p _ hp') g')
/-- the body of a def that draws -/
abbrev gDraw (K : PySem.W.Frag) (p : Addr) (H : Hp) (E : XK) : Gx := ⟨K, hidp p H, fun _ => False, WD E, fun _ _ _ _ => False, false⟩
abbrev eDraw (p : Addr) (m : Int) (n b : Nat) : DE := { nx := fun _ _ => False, rt := fun d ds b' => b ≤ b' ∧ ∃ i x' y' z' : Int, d = .int i ∧ 0 ≤ i ∧ i < m ∧ ds[0]? = some (.par p [.int x', .int y', .int z']) ∧ PGood (n + 1) x' y' z' }
theorem draw_fn {x qual : Str} {st : Stmt} {N : List Str} (U : Fun K x qual st f fd) (S : FnScope N ps (defScope st)) (hps : ps.length = 2)
    (hbody : ∀ (cdv : Value) (A : Around) (outer : List Env) (s : Shared) (H : Hp) (E : XK), Room k (A.deeper (envOfC qual (defScope st) s.heap.objs.size f cdv)) → Takes (cxOf (L2.CX P w) P w K mg base N qual (defScope st) f cdv A outer s H E) (WD E) →
      ∃ t, PSs (cxOf (L2.CX P w) P w K mg base N qual (defScope st) f cdv A outer s H E) (defBody st) t ∧
        ∀ (p : Addr) (x y z m : Int) (n b : Nat), 0 < m → m < 2 ^ 200 → PGood n x y z → n < LIM → Wt (gDraw K p H E) b t (.par p [.int x, .int y, .int z] :: .dat (.int m) :: List.replicate (N.length - 2) .un) (eDraw p m n b)) :
    FnOk P w K mg base (L2.CX P w) (k + 1) f fd ps (SpD K fdDraw) := by
  refine draw_view ?_ hps
  obtain ⟨oc, od, kV, doc, pm, an, cdv, ct, osl, rfl, lk, hcd⟩ := U.ex
  refine fn_of lk hcd S (fun vs H Q E ⟨p, x, y, z, m, n, b, e, _⟩ => by rw [e, hps]; rfl) fun A outer s H vs Q E hr hsp => ?_
  obtain ⟨t, h1, h2⟩ := hbody cdv A outer s H E hr (takes_of (E := E) rfl rfl rfl rfl)
  obtain ⟨p, x, y, z, m, n, b, rfl, hm0, hm1, hp, g, hn, hl, k⟩ := hsp
  refine ⟨t, h1, h2 p x y z m n b hm0 hm1 g hn [] (fun a => a = p) H _ ?_ _ ⟨fun _ _ _ _ _ _ e => e.elim, fun M b' H' σ' ds' v d S' e rp _ => ?_, fun _ _ _ _ _ _ e => e.elim, fun _ _ _ _ _ _ e => e.elim⟩⟩
  · have sl0 : SlOk K (fun a => a = p) H (some (.ref p)) (.par p [.int x, .int y, .int z]) := ⟨_, rfl, rfl, hp, .cons (.int x) (.cons (.int y) (.cons (.int z) .nil))⟩
    have look : ∀ (i : Nat) (s : Option V) (d : Sd), (L2.start N [.ref p, .int m])[i]? = some s → (Sd.par p [.int x, .int y, .int z] :: .dat (.int m) :: List.replicate (N.length - 2) .un)[i]? = some d → (i = 0 ∧ s = some (.ref p) ∧ d = .par p [.int x, .int y, .int z]) ∨ (i = 1 ∧ s = some (.int m) ∧ d = .dat (.int m)) ∨ d = .un := fun i s d e1 e2 => by
      match i, e1, e2 with
      | 0, e1, e2 => cases e1; cases e2; exact .inl ⟨rfl, rfl, rfl⟩
      | 1, e1, e2 => cases e1; cases e2; exact .inr (.inl ⟨rfl, rfl, rfl⟩)
      | i + 2, e1, e2 => exact .inr (.inr (List.mem_replicate.mp (List.mem_of_getElem? (show (List.replicate (N.length - 2) Sd.un)[i]? = some d from e2))).2)
    refine ⟨⟨⟨fun a o h _ => (hidp_of h).2, fun a j h => ⟨j, (hidp_of h).2⟩⟩, fun a h q => ?_⟩, fun a h => h.elim, fun a h _ => by show hidp p H a = none; rw [h]; exact hidp_same, fun a h => by rw [h, hp]; exact (fun q => nomatch q), hl, ?_, fun i s d e1 e2 => ?_, fun i j a d e q1 q2 q3 q4 q5 q6 => ?_, fun i a d q1 q2 q3 => fun z => z, fun q hq => by cases hq⟩
    · by_cases na : a = p
      · rw [na] at h; exact h hidp_same
      · exact h (by show hidp p H a = none; rw [hidp_ne na]; exact q)
    · show (([V.ref p, V.int m].map some) ++ List.replicate (N.length - 2) none).length = _
      simp
    · rcases look i s d e1 e2 with ⟨_, rfl, rfl⟩ | ⟨_, rfl, rfl⟩ | rfl
      · exact sl0
      · exact ⟨_, rfl, .int m⟩
      · trivial
    · rcases look i _ d q1 q3 with ⟨e1, _, _⟩ | ⟨_, _, e1⟩ | e1
      · rcases look j _ e q2 q4 with ⟨e2, _, _⟩ | ⟨_, _, e2⟩ | e2
        · rw [e1, e2]
        · rw [e2] at q6; cases q6
        · rw [e2] at q6; cases q6
      · rw [e1] at q5; cases q5
      · rw [e1] at q5; cases q5
  · obtain ⟨hb', i, x', y', z', rfl, i0, i1, h0, g'⟩ := e
    obtain ⟨vs, q1, q2, q3, q4, _⟩ := S'.parL h0
    cases q4 with
    | cons r1 q4 => cases q4 with | cons r2 q4 => cases q4 with | cons r3 q4 =>
      cases q4
      cases r1
      cases r2
      cases r3
      cases rp
      exact k i x' y' z' H' i0 i1 g' S'.ext (S'.lim.mono hb') q3
def QMake (H : Hp) (Q : VK) : VK := fun v H' => ∃ (q : Addr) (x y z : Int) (n : Nat), v = .ref q ∧ H q = none ∧ PGood n x y z ∧ H' q = some (.lst [.int x, .int y, .int z]) ∧ Q v (upd H' q (PurseO q n))
/-- a new source; H' behind it -/
theorem ce_make {outer : List Env} {H : Hp} {s s' : Shared} {u : Value} {Q : VK} (h : CE outer P w H s (QMake H Q) u s') : CE outer P w H s Q u s' := by
  obtain ⟨v, H', os, bare, un, hok, rel, q, x, y, z, n, rfl, hq0, g, hq, h2⟩ := h
  refine ⟨.ref q, _, os, bare, ⟨un.keep, un.slot, fun b o e hb hx => ?_, un.there, fun b xs e => ?_, fun b o xs e => ?_, fun b ps e => ?_⟩, HOk.view hok hq (fun _ q => nomatch q) (fun _ q => nomatch q) (purse_ok (hok q _ hq) g), rel, h2⟩
  · have h3 := un.free b o e hb hx
    rw [upd_ne (fun z => by rw [z, hq] at h3; cases h3)]
    exact h3
  · have h3 := un.tups b xs e
    rw [upd_ne (fun z => by rw [z, hq] at h3; cases h3)]
    exact h3
  · have h3 := un.frzs b o xs e
    rw [upd_ne (fun z => by rw [z, hq] at h3; cases h3)]
    exact h3
  · obtain ⟨more, h3⟩ := un.tbls b ps e
    exact ⟨more, by rw [upd_ne (fun z => by rw [z, hq] at h3; cases h3)]; exact h3⟩
/-- a def that makes a source of the script's cell k -/
def fdMake : Fd := { n := 2, dom := fun ds => ∃ (ns : List Int) (k : Int), ds = [.scr ns, .int k] ∧ 0 ≤ k ∧ k < 1000, res := fun _ d => d = .purse }
def spMakeC (K : PySem.W.Frag) : Sp := fun vs H Q _ => ∃ (a : Addr) (ns : List Int) (k : Int), vs = [.ref a, .int k] ∧ 0 ≤ k ∧ k < 1000 ∧ ScrL K H a (ns.map V.int) ∧ (∀ o, K.lookup a = some o → H a = none) ∧
  ∃ b, Lim b H ∧ ∀ (q : Addr) (x y : Int) (H' : Hp), H q = none → PGood 0 x y 0 → Ext H H' → Lim b H' → H' q = some (.lst [.int x, .int y, .int 0]) → Q (.ref q) H'
/-- .. of a number and a place -/
def fdMakeI : Fd := { n := 2, dom := fun ds => ∃ (c k : Int), ds = [.int c, .int k] ∧ 0 ≤ k ∧ k < 1000, res := fun _ d => d = .purse }
def spMakeI : Sp := fun vs H Q _ => ∃ (c k : Int), vs = [.int c, .int k] ∧ 0 ≤ k ∧ k < 1000 ∧
  ∃ b, Lim b H ∧ ∀ (q : Addr) (x y : Int) (H' : Hp), H q = none → PGood 0 x y 0 → Ext H H' → Lim b H' → H' q = some (.lst [.int x, .int y, .int 0]) → Q (.ref q) H'
theorem make_end {H H' : Hp} {N : Addr → Prop} {b : Nat} {q : Addr} {x y : Int} {Q : VK} (hN : ∀ a, N a → H a ≠ none) (l : Lim b H') (hq : H q = none) (g : PGood 0 x y 0) (e : Ext H H') (h' : H' q = some (.lst [.int x, .int y, .int 0]))
    (k : ∀ v d H', d = D.purse → Ext H H' → Lim b H' → Rp K (msk N H') v d → Q v H') : QMake H Q (.ref q) H' := by
  refine ⟨q, x, y, 0, 0, rfl, hq, g, h', ?_⟩
  obtain ⟨n0, p1, p2⟩ := l
  refine k _ _ _ rfl (e.mut hq) ⟨n0, fun a φ ha => ?_, p2⟩ (.purse (n := 0) (by rw [msk_no fun z => hN q z hq]; exact upd_same))
  by_cases na : a = q
  · rw [na, upd_same] at ha
    exact ⟨0, Nat.zero_le _, by rw [na]; exact (Option.some.inj ha).symm⟩
  · rw [upd_ne na] at ha
    exact p1 a φ ha
theorem make_view (F : FnOk P w K mg base (L2.CX P w) k f fd ps (spMakeC K)) (hps : ps.length = 2) : FnOk P w K mg base (L2.CX P w) k f fd ps (SpD K fdMake) := by
  refine ⟨SpD.len (F := fdMake) hps, fun A outer s H args us vs Q E hr e0 hb r hsp => ?_⟩
  obtain ⟨ds, N, b, a1, a2, a4, _, ⟨ns, c, rfl, h0, h1⟩, a6, _⟩ := hsp
  cases a4 with
  | cons r1 a4 =>
    cases a4 with
    | cons r2 a4 =>
      cases a4
      cases r2
      cases r1 with
      | scr hs =>
        have a2' : Lim b H := a2.mono (Nat.le_add_left _ _)
        refine codeAny_mono (F.run A outer s H args us _ (QMake H Q) (fun _ _ _ => False) hr e0 hb r ⟨_, ns, c, rfl, h0, h1, msk_all.scr hs, fun o ho => (e0.bs _ _ (e0.mod.kin _ _ ho)).2, b, a2', fun q x y H' hq g e l h' => make_end a1 l hq g e h' fun v d H' e x l rp => a6 v d H' e x l rp (fun z => nomatch z)⟩) fun res s' hq => ?_
        cases res with
        | error e =>
          obtain ⟨a, B, H', cls, d, q1, q2, q3, q4, q5, q6, q7, q8⟩ := hq
          exact q8.elim
        | ok fl =>
          cases fl with
          | next => exact False.elim hq
          | brk => exact False.elim hq
          | cont => exact False.elim hq
          | ret u => exact ce_make hq
theorem makeI_view (F : FnOk P w K mg base (L2.CX P w) k f fd ps spMakeI) (hps : ps.length = 2) : FnOk P w K mg base (L2.CX P w) k f fd ps (SpD K fdMakeI) := by
  refine ⟨SpD.len (F := fdMakeI) hps, fun A outer s H args us vs Q E hr e0 hb r hsp => ?_⟩
  obtain ⟨ds, N, b, a1, a2, a4, _, ⟨n, c, rfl, h0, h1⟩, a6, _⟩ := hsp
  cases a4 with
  | cons r1 a4 =>
    cases a4 with
    | cons r2 a4 =>
      cases a4
      cases r2
      cases r1
      have a2' : Lim b H := a2.mono (Nat.le_add_left _ _)
      refine codeAny_mono (F.run A outer s H args us _ (QMake H Q) (fun _ _ _ => False) hr e0 hb r ⟨n, c, rfl, h0, h1, b, a2', fun q x y H' hq g e l h' => make_end a1 l hq g e h' fun v d H' e x l rp => a6 v d H' e x l rp (fun z => nomatch z)⟩) fun res s' hq => ?_
      cases res with
      | error e =>
        obtain ⟨a, B, H', cls, d, q1, q2, q3, q4, q5, q6, q7, q8⟩ := hq
        exact q8.elim
      | ok fl =>
        cases fl with
        | next => exact False.elim hq
        | brk => exact False.elim hq
        | cont => exact False.elim hq
        | ret u => exact ce_make hq
/-- the body of a def that makes a source -/
abbrev gMake (K : PySem.W.Frag) (H : Hp) (M0 : Addr → Prop) (E : XK) : Gx := ⟨K, H, M0, WD E, fun _ _ _ _ => False, false⟩
abbrev eMake (b : Nat) : DE := { nx := fun _ _ => False, rt := fun d _ b' => b ≤ b' ∧ ∃ x y : Int, d = .lst [.int x, .int y, .int 0] ∧ PGood 0 x y 0 }
theorem make_fn {x qual : Str} {st : Stmt} {N : List Str} (U : Fun K x qual st f fd) (S : FnScope N ps (defScope st)) (hps : ps.length = 2)
    (hbody : ∀ (cdv : Value) (A : Around) (outer : List Env) (s : Shared) (H : Hp) (E : XK), Room k (A.deeper (envOfC qual (defScope st) s.heap.objs.size f cdv)) → Takes (cxOf (L2.CX P w) P w K mg base N qual (defScope st) f cdv A outer s H E) (WD E) →
      ∃ t, PSs (cxOf (L2.CX P w) P w K mg base N qual (defScope st) f cdv A outer s H E) (defBody st) t ∧
        ∀ (M0 : Addr → Prop) (ns : List Int) (c : Int) (b : Nat), 0 ≤ c → c < 1000 → Wt (gMake K H M0 E) b t (slots N.length [.scr ns, .int c]) (eMake b)) :
    FnOk P w K mg base (L2.CX P w) (k + 1) f fd ps (SpD K fdMake) := by
  refine make_view ?_ hps
  obtain ⟨oc, od, kV, doc, pm, an, cdv, ct, osl, rfl, lk, hcd⟩ := U.ex
  refine fn_of lk hcd S (fun vs H Q E ⟨a, ns, c, e, _⟩ => by rw [e, hps]; rfl) fun A outer s H vs Q E hr hsp => ?_
  obtain ⟨t, h1, h2⟩ := hbody cdv A outer s H E hr (takes_of (E := E) rfl rfl rfl rfl)
  obtain ⟨a, ns, c, rfl, c0, c1, hs, hno, b, hl, k⟩ := hsp
  have hm : Rp K (msk (fun q => H q ≠ none ∧ q ≠ a) H) (.ref a) (.scr ns) := .scr (by
    rcases hs with ⟨o, h⟩ | h
    · exact .inl ⟨o, by rw [msk_no fun z => z.2 rfl]; exact h⟩
    · exact .inr h)
  refine ⟨t, h1, h2 (fun q => H q ≠ none ∧ q ≠ a) ns c b c0 c1 [] _ H _ (start_stt (fun q h => h.1) hl (.cons hm (.cons (.int c) .nil))) _ ⟨fun _ _ _ _ _ _ e => e.elim, fun M b' H' σ' ds' v d S' e rp _ => ?_, fun _ _ _ _ _ _ e => e.elim, fun _ _ _ _ _ _ e => e.elim⟩⟩
  obtain ⟨hb', x, y, rfl, g⟩ := e
  cases rp with
  | @lst q vs _ ha r =>
    cases r with
    | cons r1 r => cases r with | cons r2 r => cases r with | cons r3 r =>
      cases r
      cases r1
      cases r2
      cases r3
      obtain ⟨m1, m2⟩ := msk_of ha
      have hq : H q = none := by
        cases e : H q with
        | none => rfl
        | some o =>
          have eq : q = a := Classical.byContradiction fun z => m1 ⟨by show H q ≠ none; rw [e]; exact (fun z => nomatch z), z⟩
          rcases hs with ⟨o', h⟩ | h
          · rw [← eq] at h
            have h3 := S'.ext.keep _ _ h (fun _ z => nomatch z)
            rw [m2] at h3
            exact nomatch h3
          · rw [eq] at e m2
            obtain ⟨o1, its, n, lk1, _⟩ := h
            rw [hno o1 lk1] at e
            cases e
      exact k q x y H' hq g S'.ext (S'.lim.mono hb') m2
end
end Sh

/-! Sh8: the rules in the form in which gen.py prints them: K a letter. -/
namespace Sh
open PySem PySem.Spec PyProof.Rows L2
section
variable {X : Cx} {K : PySem.W.Frag}
theorem g_add (hK : X.K = K) : OpR X (binaryOp .Add) (rAddA K) := by subst hK; exact op_addA
theorem g_sub : OpR X (binaryOp .Sub) rSubA := op_subA
theorem g_mul : OpR X (binaryOp .Mult) rMulA := op_mulA
theorem g_div : OpR X (binaryOp .FloorDiv) rDivA := op_divA
theorem g_mod : OpR X (binaryOp .Mod) rModA := op_modA
theorem g_pow : OpR X (binaryOp .Pow) rPowA := op_powA
theorem g_lt : OpR X (compareOp .Lt) rLt := op_ltA
theorem g_le : OpR X (compareOp .LtE) rLe := op_leA
theorem g_gt : OpR X (compareOp .Gt) rGt := op_gtA
theorem g_ge : OpR X (compareOp .GtE) rGe := op_geA
theorem g_eq (hK : X.K = K) {k : Nat} (hr : Room k X.A) : OpR X (compareOp .Eq) (rEqD K) := by subst hK; exact op_eqA hr.units
theorem g_ne (hK : X.K = K) {k : Nat} (hr : Room k X.A) : OpR X (compareOp .NotEq) (rNeD K) := by subst hK; exact op_neA hr.units
theorem g_neg : UnR X (unaryOp .USub) (rU fun i => V.int (-i)) := un_neg
def rIsN : R2 := fun x y H Q => y = .non ∧ Q (.bl (decide (x = .non))) H
def rNotN : R2 := fun x y H Q => y = .non ∧ Q (.bl (!decide (x = .non))) H
theorem g_is : OpR X (compareOp .Is) rIsN := op_isN
theorem g_isnot : OpR X (compareOp .IsNot) rNotN := op_notN
theorem g_ix (hK : X.K = K) {k : Nat} (hr : Room k X.A) : IxR X (rIxA K) := by subst hK; exact ix_any (hu_of hr)
theorem g_len (hK : X.K = K) : CallR X (.builtin "len") (rLen K) := by subst hK; exact call_len'
theorem g_max (hc : X.calm = true) : CallR X (.builtin "max") rMax2 := call_max2' hc
theorem g_min (hc : X.calm = true) : CallR X (.builtin "min") rMin2 := call_min2' hc
theorem g_divmod : CallR X (.builtin "divmod") rDivm := call_divm
theorem boot_divm : bootBuiltins "divmod" = some (.builtin "divmod") := by decide +kernel
theorem g_list (hK : X.K = K) {tg l : Expr} {tl : TE} (hl : PE X l tl) : PI X tg l (iList K tl) := by subst hK; exact pi_list hl
theorem g_tuple (hK : X.K = K) {tg l : Expr} {tl : TE} (hl : PE X l tl) : PI X tg l (iTup K tl) := by subst hK; exact pi_tup hl
theorem g_enum (hK : X.K = K) {e : Expr} {ta : TA} {p pos tpos : Pos} {elts : List Expr} {kk : Nat} (hg : Gl X "enumerate") (hm : X.mg "enumerate" = none) (ha : PA X [e] ta) (hs : starEach [e] X.env = [(false, eval e X.env)] := by rfl) :
    PI X (.Tuple elts kk tpos) (.Call (.Name "enumerate" p) [e] [] pos) (iEnum K ta) := by subst hK; exact pi_enum hg hm ha hs
theorem g_zip (hK : X.K = K) {e e2 : Expr} {ta : TA} {p pos tpos : Pos} {elts : List Expr} {kk : Nat} (hg : Gl X "zip") (hm : X.mg "zip" = none) (ha : PA X [e, e2] ta)
    (hs : starEach [e, e2] X.env = (false, eval e X.env) :: starEach [e2] X.env := by rfl) (hpl : (backTo pos (starEach [e2] X.env)).any (·.1) = false := by rfl) :
    PI X (.Tuple elts kk tpos) (.Call (.Name "zip" p) [e, e2] [] pos) (RZ.iZipA K ta) := by subst hK; exact RZ.pi_zipA hg hm ha hs hpl
theorem g_tup (hK : X.K = K) {es : List Expr} {k : Nat} {t : TGs} {n : Nat} {pos : Pos} (hc : X.calm = true) (h : PGs X es t)
    (hn : (assignEach es X.env).length = n := by rfl) (hst : (assignEach es X.env).findIdx? (·.1) = none := by rfl) : PG X (.Tuple es k pos) (gTup K n t) := by subst hK; exact pg_tup hc h hn hst
def tTru (K : PySem.W.Frag) (ta : TE) : TT := fun σ H Q => ta σ H fun x H' => ∃ k, TruV K x H' k ∧ Q k H'
theorem g_tru (hK : X.K = K) {a : Expr} {ta : TE} (ha : PE X a ta) (he : ∀ whole, isTrue a X.env whole = (do let v ← whole; standAt a.pos; holding [v] (truthy v))) : PT X a (tTru K ta) := by subst hK; exact pt_truth ha he
theorem g_app (hK : X.K = K) {o e : Expr} {es : List Expr} {to : TE} {t : TA} {apos pos : Pos} (h : PE X (.Call (.Attribute o "append" apos) [e] [] pos) (tBM X.K "list" rAppend to t)) : PE X (.Call (.Attribute o "append" apos) [e] [] pos) (tBM K "list" rAppend to t) := by subst hK; exact h
end
/-! what they ask, by data -/
section
variable {G : Gx} {p : Bool} {b b' : Nat} {te : TE} {ds : List Sd}
/-- the truth of a value -/
def D.tru : D → Option Bool
  | .non => some false
  | .bl b => some b
  | .int i => some (i != 0)
  | .lst xs => some (!xs.isEmpty)
  | .tup xs => some (!xs.isEmpty)
  | .dct kvs => some (!kvs.isEmpty)
  | _ => none
theorem RpK.length {K : PySem.W.Frag} {H : Hp} : ∀ {vs : List (Key × V)} {ds : List (Key × D)}, RpK K H vs ds → vs.length = ds.length
  | _, _, .nil => rfl
  | _, _, .cons _ q => congrArg (· + 1) (RpK.length q)
theorem isEmpty_len {α β : Type} {xs : List α} {ys : List β} (h : xs.length = ys.length) : xs.isEmpty = ys.isEmpty := by
  cases xs <;> cases ys <;> first | rfl | cases h
theorem Rp.truV {K : PySem.W.Frag} {H : Hp} {v : V} {d : D} {c : Bool} (r : Rp K H v d) (h : d.tru = some c) : TruV K v H c := by
  cases r with
  | non => cases h; rfl
  | bl b => cases h; rfl
  | int i => cases h; rfl
  | lst ha r => cases h; exact .inl ⟨_, SqL.of ha, by rw [isEmpty_len r.length]⟩
  | tup ha r => cases h; exact .inr (.inl ⟨_, ha, by rw [isEmpty_len r.length]⟩)
  | dct ha r => cases h; exact .inr (.inr ⟨_, ha, by rw [isEmpty_len r.length]⟩)
  | _ => cases h
theorem et_tru {d : D} {c : Bool} (h : EvD G false b b' te ds d) (hc : d.tru = some c) : EtD G b b' (tTru G.K te) ds c := fun gs M H σ S Q k => h gs M H σ S _ fun v d' H' r e l rp => by
  subst r
  exact ⟨c, (rp.mono msk_all).truV hc, k c H' rfl e l⟩
theorem o_isN {K : PySem.W.Frag} {x : D} (h : x ≠ .non) : Op2D K rIsN x .non (.bl false) := fun N b H v u Q hN l r1 r2 k => by
  cases r2
  refine ⟨rfl, ?_⟩
  have e : decide (v = V.non) = false := decide_eq_false fun z => by
    subst z
    cases r1
    exact h rfl
  rw [e]
  exact k _ _ H rfl (Ext.refl H) l (.bl _)
theorem o_isN1 {K : PySem.W.Frag} : Op2D K rIsN .non .non (.bl true) := fun N b H v u Q hN l r1 r2 k => by
  cases r2
  cases r1
  exact ⟨rfl, k _ _ H rfl (Ext.refl H) l (.bl _)⟩
theorem o_notN {K : PySem.W.Frag} {x : D} (h : x ≠ .non) : Op2D K rNotN x .non (.bl true) := fun N b H v u Q hN l r1 r2 k => by
  cases r2
  refine ⟨rfl, ?_⟩
  have e : decide (v = V.non) = false := decide_eq_false fun z => by
    subst z
    cases r1
    exact h rfl
  rw [e]
  exact k _ _ H rfl (Ext.refl H) l (.bl _)
theorem o_notN1 {K : PySem.W.Frag} : Op2D K rNotN .non .non (.bl false) := fun N b H v u Q hN l r1 r2 k => by
  cases r2
  cases r1
  exact ⟨rfl, k _ _ H rfl (Ext.refl H) l (.bl _)⟩
end
end Sh

/-! Sh9: short words. -/
namespace Sh
open PySem PySem.Spec PyProof.Rows L2
theorem EvD.flatT {G : Gx} {b b' : Nat} {te : TE} {ds : List Sd} {d : D} (h : EvD G false b b' te ds d) (f : flatD d = true) : EvD G true b b' te ds d := EvD.flat h f
abbrev allV : List Nat := [0,1,2,3,4,5,6,7,8,9,10,11,12,13,14,15,16,17,18,19,20,21,22,23,24,25,26,27,28,29,30,31,32,33,34,35,36,37,38,39]
theorem w_tg {G : Gx} {b b' : Nat} {te : TE} {g : TG} {ds ds' : List Sd} {d : D} {E : DE} (h : EvD G true b b' te ds d) (t : TgR G.K allV g d ds ds') (k : E.nx ds' b') : Wt G b (tAsg te g) ds E := w_tgt h t k
theorem ws_tg {G : Gx} {b b' : Nat} {te : TE} {g : TG} {ds : List Sd} {R : D → Prop} {E : DE} (h : EvS G true b b' te ds R) (k : ∀ d, R d → ∃ ds', TgR G.K allV g d ds ds' ∧ E.nx ds' b') : Wt G b (tAsg te g) ds E := ws_tgt h k
theorem Op2D.as {K : PySem.W.Frag} {r : R2} {x y z z' : D} (h : Op2D K r x y z') (e : z' = z) : Op2D K r x y z := by rw [← e]; exact h
theorem ClD.as {K : PySem.W.Frag} {r : List V → Hp → VK → Prop} {xs : List D} {z z' : D} (h : ClD K r xs z') (e : z' = z) : ClD K r xs z := by rw [← e]; exact h
theorem Op2.to {K : PySem.W.Frag} {r : R2} {x y z : D} {R : D → Prop} (h : Op2D K r x y z) (i : R z) : Op2 K r x y R := fun N b H v u Q hN l r1 r2 k => h N b H v u Q hN l r1 r2 fun z' d H' e x l rp => k z' d H' (by rw [e]; exact i) x l rp
theorem Op2.id {K : PySem.W.Frag} {r : R2} {x y : D} {R : D → Prop} (h : Op2 K r x y R) : Op2 K r x y R := h
theorem ClA.id {K : PySem.W.Frag} {r : List V → Hp → VK → Prop} {xs : List D} {R : D → Prop} (h : ClA K r xs R) : ClA K r xs R := h
/-! ### powers of small numbers -/
theorem cpow_small {i j : Int} (a : Nat) (h : i.natAbs < 2 ^ a) (h0 : 0 < a) (hj : 0 ≤ j ∧ (a : Int) * j ≤ 2 ^ 27) : CPowW i j := by
  refine ⟨hj.1, ?_⟩
  have hb : Builtin.Int.intBits i ≤ a := by
    unfold Builtin.Int.intBits
    split
    · omega
    · have q := PySem.Flt.log2_lt_of h0 h
      omega
  have h1 : (Builtin.Int.intBits i : Int) * j ≤ (a : Int) * j := Int.mul_le_mul_of_nonneg_right (by omega) hj.1
  omega
/-! ### calls whose one answer is known -/
structure Cal (F : Fd) (es : List D) (z : D) : Prop where
  n : es.length = F.n
  dom : F.dom es
  cost : F.cost es = 0
  res : ∀ d, F.res es d → d = z
  exn : ∀ C x, ¬ F.exn es C x
theorem ev_cal {G : Gx} {p : Bool} {b b1 : Nat} {t : TA} {ds : List Sd} {F : Fd} {n : Nat} {E : L2.St → XK} {es : List D} {z : D} (ha : EaD G p b b1 t ds es) (h : Cal F es z) (hn : es.length = n) :
    EvD G p b b1 (tCl n 0 (SpD G.K F) (fun vs _ => vs) E t tNil) ds z :=
  (evs_cl (F := F) (gD := fun es _ => es) (fs := []) ha ea_nil (fun _ _ _ _ _ r _ => r) rfl fun es' e => by
    subst e
    exact ⟨hn, h.n, h.dom, by rw [h.cost, Nat.zero_add]; exact Nat.le_refl _, fun C x q => absurd q (h.exn C x)⟩).imp fun d ⟨es', e, q⟩ => by
    subst e
    exact h.res d q
/-- .. any of several answers -/
structure Cas (F : Fd) (es : List D) (c : Nat) (R : D → Prop) : Prop where
  n : es.length = F.n
  dom : F.dom es
  cost : F.cost es ≤ c
  res : ∀ d, F.res es d → R d
  exn : ∀ C x, ¬ F.exn es C x
theorem evs_cal {G : Gx} {p : Bool} {b b1 b' c : Nat} {t : TA} {ds : List Sd} {F : Fd} {n : Nat} {E : L2.St → XK} {es : List D} {R : D → Prop} (ha : EaD G p b b1 t ds es) (h : Cas F es c R) (hn : es.length = n) (hb : c + b' ≤ b1) :
    EvS G p b b' (tCl n 0 (SpD G.K F) (fun vs _ => vs) E t tNil) ds R :=
  (evs_cl (F := F) (gD := fun es _ => es) (fs := []) ha ea_nil (fun _ _ _ _ _ r _ => r) rfl fun es' e => by
    subst e
    exact ⟨hn, h.n, h.dom, Nat.le_trans (Nat.add_le_add_right h.cost _) hb, fun C x q => absurd q (h.exn C x)⟩).imp fun d ⟨es', e, q⟩ => by
    subst e
    exact h.res d q
theorem cas_draw {m : Int} (h0 : 0 < m) (h1 : m < 2 ^ 200) : Cas fdDraw [.purse, .int m] 1 (fun d => ∃ i : Int, d = .int i ∧ 0 ≤ i ∧ i < m) :=
  ⟨rfl, ⟨m, rfl, h0, h1⟩, Nat.le_refl _, fun d ⟨m', i, e, h2, h3, h4⟩ => by
    cases e
    exact ⟨i, h2, h3, h4⟩, fun _ _ q => q⟩
theorem cl_make {ns : List Int} {k : Int} (h0 : 0 ≤ k) (h1 : k < 1000) : Cal fdMake [.scr ns, .int k] .purse := ⟨rfl, ⟨ns, k, rfl, h0, h1⟩, rfl, fun d h => h, fun _ _ q => q⟩
theorem cl_makeI {c k : Int} (h0 : 0 ≤ k) (h1 : k < 1000) : Cal fdMakeI [.int c, .int k] .purse := ⟨rfl, ⟨c, k, rfl, h0, h1⟩, rfl, fun d h => h, fun _ _ q => q⟩
/-! ### stores to items -/
def rSetD : V → V → V → Hp → (Hp → Prop) → Prop := fun o i v H Q => ∃ a H', o = .ref a ∧ DPut H a i v H' ∧ Q H'
def rSetA : V → V → V → Hp → (Hp → Prop) → Prop := fun o i v H Q => rSetL o i v H Q ∨ rSetD o i v H Q
theorem set_dict {X : Cx} (hu : X.A.units + 1 < cLine) : PSet X rSetD := by
  intro pins s σ H o i v ov iv u Q I ro ri rv h
  obtain ⟨a, H', rfl, g, q⟩ := h
  obtain rfl : ov = Value.ref a := ro
  exact d_setItem hu I g ri rv fun s4 I4 => ⟨H', I4, q⟩
theorem g_set {X : Cx} {k : Nat} (hr : Room k X.A) : PSet X rSetA := by
  intro pins s σ H o i v ov iv u Q I ro ri rv h
  rcases h with h | h
  · exact set_list pins s σ H o i v ov iv u Q I ro ri rv h
  · exact set_dict (hu_of hr) pins s σ H o i v ov iv u Q I ro ri rv h
theorem ixN_nn {n : Nat} {k : Int} (h0 : 0 ≤ k) (h : k < n) : ixN n k = some k.toNat := by
  unfold ixN
  rw [if_pos h0, if_pos h]
section
variable {G : Gx} {b b1 b2 : Nat} {te ti : TE} {ds : List Sd} {R : D → Prop} {d : D} {E : DE} {i : Nat} {k : Int} {xs : List D}
/-- xs[k] = e, xs handed in to be changed -/
theorem w_setP {a : Addr} (hi : ds[i]? = some (.par a xs)) (h : EvD G true b b1 te ds d) (hk : EvD G true b1 b2 ti ds (.int k)) (h0 : 0 ≤ k) (h1 : k < xs.length) (kk : E.nx (ds.set i (.par a (xs.set k.toNat d))) b2) :
    Wt G b (tAsg te (gSub (tVar i) ti rSetA)) ds E := fun gs M H σ S Dn w => by
  refine h gs M H σ S _ fun v d' H1 r e1 l1 rp => ?_
  subst r
  have S1 := S.step e1 l1
  obtain ⟨vs, hσ, m, ha, rr, n0⟩ := S1.parL hi
  refine ⟨.ref a, hσ, ?_⟩
  refine hk gs M H1 σ S1 _ fun v2 d2 H2 r2 e2 l2 rp2 => ?_
  subst r2
  cases rp2
  have S2 := S1.step e2 l2
  have ha2 : H2 a = some (.lst vs) := e2.keep _ _ ha fun _ z => nomatch z
  have hl : k < vs.length := by rw [rr.length]; exact h1
  exact .inl ⟨a, vs, k, k.toNat, rfl, rfl, ha2, ixN_nn h0 hl, w.nx M b2 _ σ _ (S2.chgP hi (RpA.set (rp.mono (msk_mono e2.toKp)) _ (rr.mono (msk_mono e2.toKp)))) kk⟩
/-- .. our own -/
theorem w_setO (hi : ds[i]? = some (.own xs)) (h : EvD G true b b1 te ds d) (hk : EvD G true b1 b2 ti ds (.int k)) (h0 : 0 ≤ k) (h1 : k < xs.length) (kk : E.nx (ds.set i (.own (xs.set k.toNat d))) b2) :
    Wt G b (tAsg te (gSub (tVar i) ti rSetA)) ds E := fun gs M H σ S Dn w => by
  refine h gs M H σ S _ fun v d' H1 r e1 l1 rp => ?_
  subst r
  have S1 := S.step e1 l1
  obtain ⟨a, vs, hσ, m, ha, rr, n0⟩ := S1.ownL hi
  refine ⟨.ref a, hσ, ?_⟩
  refine hk gs M H1 σ S1 _ fun v2 d2 H2 r2 e2 l2 rp2 => ?_
  subst r2
  cases rp2
  have S2 := S1.step e2 l2
  have ha2 : H2 a = some (.lst vs) := e2.keep _ _ ha fun _ z => nomatch z
  have hl : k < vs.length := by rw [rr.length]; exact h1
  exact .inl ⟨a, vs, k, k.toNat, rfl, rfl, ha2, ixN_nn h0 hl, w.nx M b2 _ σ _ (S2.chg hi hσ (RpA.set (rp.mono (msk_mono e2.toKp)) _ (rr.mono (msk_mono e2.toKp)))) kk⟩
end
end Sh

/-! Sh10: a law's own head. -/
namespace Sh
open PySem PySem.Spec PyProof.Rows L2
theorem law_in {K : PySem.W.Frag} {F : Fd} (h1 : F.n = 1) (hdom : ∀ ns : List Int, ns.length ≤ 63 → (∀ z ∈ ns, Builtin.Int.intBits z ≤ 1048576) → F.dom [.scr ns]) (hc : ∀ ns : List Int, ns.length ≤ 63 → F.cost [.scr ns] ≤ LIM) (hr : ∀ ds d, F.res ds d → d = .bl true) (he : ∀ ds C x, ¬ F.exn ds C x)
    {H : Hp} {a : Addr} {ns : List Int} (hl : ns.length ≤ 63) (hb : ∀ z ∈ ns, Builtin.Int.intBits z ≤ 1048576) (hO : Only H) (hS : SqL K H a (ns.map V.int)) : SpD K F [.ref a] H (fun v _ => v = .bl true) fun _ _ _ => False := by
  refine ⟨[.scr ns], fun _ => False, 0, fun _ z => z.elim, ⟨0, fun b φ e => ?_, ?_⟩, .cons (.scr ?_) .nil, h1.symm, hdom ns hl hb, fun v d H' r e l rp _ => ?_, fun C dd fsV fs H' z => absurd z (he _ _ _)⟩
  · rcases hO b with z | ⟨o, xs, z⟩
    · rw [e] at z
      cases z
    · rw [e] at z
      cases z
  · have := hc ns hl
    omega
  · refine Kp.scr (H := H) ⟨fun b o h hp => ?_, fun b n h => ?_⟩ ?_
    · rw [msk_no (fun z => z)]
      exact h
    · exact ⟨n, by rw [msk_no (fun z => z)]; exact h⟩
    · rcases hS with (z | z) | z
      · rcases hO a with q | ⟨o, xs, q⟩
        · rw [z] at q
          cases q
        · rw [z] at q
          cases q
      · exact .inl z
      · exact .inr z
  · have e2 := hr _ _ r
    subst e2
    cases rp
    rfl
theorem law_cx {P : Program} {w : World} {H : Hp} {s : Shared} {e : Value} {s' : Shared} (h : L2.CX P w [] H s (fun _ _ _ => False) e s') : False := by
  obtain ⟨a, B, H', cls, d, h1, h2, h3, h4, h5, h6, h7, h8⟩ := h
  exact h8
end Sh

/-! Sh11: a, *b, c = ..; isinstance, slices, sums, joins. -/
namespace Sh
open PySem PySem.Spec PySem.Calls PyProof.Rows L2

/-! ### a, *b, c = e -/
section
variable {prog : Program} {w : World} {A : Around} {E : Value → Shared → Prop} {s : Shared}
theorem star_mid {xs : List Value} {n i : Nat} {Q : List Value → Shared → Prop} (hi : i < n) (hn : n ≤ xs.length + 1) (hz : xs.length ≤ 16384)
    (hq : ∀ (D : Addr) h', (∀ b o, s.heap.get? b = some o → h'.get? b = some o) → s.heap.objs.size ≤ D → h'.get? D = some { cls := .type "list", dict := none, data := .seq ((xs.drop i).take (xs.length + 1 - n)).toArray 0, slots := #[] } → Q (xs.take i ++ [.ref D] ++ (xs.drop i).drop (xs.length + 1 - n)) { s with heap := h' }) :
    wpAny (model prog w) A (newList ((xs.drop i).take ((xs.drop i).length - (n - 1 - i))) >>= fun d => pure (xs.take i ++ [d] ++ (xs.drop i).drop ((xs.drop i).length - (n - 1 - i)))) Q E s := by
  have hmid : (xs.drop i).length - (n - 1 - i) = xs.length + 1 - n := by
    rw [List.length_drop]
    omega
  rw [hmid]
  refine wpAny_bind (m := newList _) (wpAny_newObj_type (wpAny_pure (hq _ _ (fun b o e => Heap.get?_push_of_some _ e) (Nat.le_refl _) (Heap.get?_push_size _ rfl))) ?_)
  show ((xs.drop i).take (xs.length + 1 - n)).toArray.size ≤ sizeLine
  rw [List.size_toArray, List.length_take, List.length_drop, sizeLine_eq]
  omega
theorem star_tup {l : Addr} {xs : List Value} {n i : Nat} {Q : List Value → Shared → Prop} (hl : IsTup s.heap l xs.toArray) (hh : A.handled = none) (hi : i < n) (hn : n ≤ xs.length + 1) (hz : xs.length ≤ 16384)
    (hq : ∀ (D : Addr) (h₂ h' : Heap) tk, (∀ b o, s.heap.get? b = some o → h₂.get? b = some o) → (∀ b o, h₂.get? b = some o → h'.get? b = some o) → h₂.objs.size ≤ D → h'.get? D = some { cls := .type "list", dict := none, data := .seq ((xs.drop i).take (xs.length + 1 - n)).toArray 0, slots := #[] } → Q (xs.take i ++ [.ref D] ++ (xs.drop i).drop (xs.length + 1 - n)) { s with heap := h', toks := tk }) :
    wpAny (model prog w) A (unpackItems (.ref l) n (some i)) Q E s := by
  have hlt : l ≠ s.heap.objs.size := by obtain ⟨o, ho, _⟩ := hl; exact Nat.ne_of_lt (Heap.lt_size ho)
  unfold unpackItems
  refine wpAny_bind ?_
  unfold notIterableAtAll
  refine wpAny_bind (wpAny_specialOf hl.typeIs slot_tuple_iter.lookup ?_)
  refine wpAny_pure ?_
  simp only [Bool.false_eq_true, if_false]
  refine wpAny_bind (wpAny_holding (iter_tuple hl ?_))
  refine wpAny_bind (wpAny_holding (draw_tuple hlt i 0 _ _ ⟨_, Heap.get?_push_size _ rfl, rfl, rfl⟩ (hl.push _) (by rw [List.size_toArray]; omega) fun h₁ hit₁ hs₁ => ?_))
  have hl₁ : IsTup h₁ l xs.toArray := (hl.push _).extBut hs₁.extBut hlt
  rw [Nat.zero_add] at hit₁
  obtain ⟨oi, hoi, _⟩ := id hit₁
  obtain ⟨ol, hol, _⟩ := id hl₁
  rw [List.drop_zero]
  have hfl : (xs.take i).length = i := by rw [List.length_take]; omega
  rw [if_neg (show ¬ ((xs.take i).length < i) by rw [hfl]; omega)]
  refine wpAny_bind (wpAny_holding (PySem.W.kun_collect (s := { s with heap := h₁ }) (T := "tuple_iterator") (.inr (.inr (.inr rfl))) (Walks.tuple (A := A.in1) hh s.heap.objs.size l hlt xs.toArray) (fun j u st => st.1.typeIs) (k := i) (by rw [List.size_toArray]; omega) ⟨hit₁, hl₁⟩ (Heap.lt_size hoi) (Heap.lt_size hol) (fun h₂ tk hk => ?_) (by rw [List.size_toArray, sizeLine_eq]; omega)))
  show wpAny _ _ (if (xs.drop i).length < n - 1 - i then _ else _) _ _ _
  rw [if_neg (by rw [List.length_drop]; omega)]
  have he : ∀ b o, s.heap.get? b = some o → h₂.get? b = some o := fun b o e => hk b o (Nat.ne_of_lt (Heap.lt_size e)) (hs₁.extBut b o (Nat.ne_of_lt (Heap.lt_size e)) (Heap.get?_push_of_some _ e))
  exact star_mid (s := { s with heap := h₂, toks := tk }) hi hn hz fun D h' k1 k2 k3 => hq D h₂ h' tk he k1 k2 k3
theorem star_lst {l : Addr} {xs : List Value} {n i : Nat} {Q : List Value → Shared → Prop} (hl : s.heap.IsList l xs.toArray) (hh : A.handled = none) (hi : i < n) (hn : n ≤ xs.length + 1) (hz : xs.length ≤ 16384)
    (hq : ∀ (D : Addr) (h₂ h' : Heap) tk, (∀ b o, s.heap.get? b = some o → h₂.get? b = some o) → (∀ b o, h₂.get? b = some o → h'.get? b = some o) → h₂.objs.size ≤ D → h'.get? D = some { cls := .type "list", dict := none, data := .seq ((xs.drop i).take (xs.length + 1 - n)).toArray 0, slots := #[] } → Q (xs.take i ++ [.ref D] ++ (xs.drop i).drop (xs.length + 1 - n)) { s with heap := h', toks := tk }) :
    wpAny (model prog w) A (unpackItems (.ref l) n (some i)) Q E s := by
  have hlt : l ≠ s.heap.objs.size := by obtain ⟨o, ho, _⟩ := hl; exact Nat.ne_of_lt (Heap.lt_size ho)
  unfold unpackItems
  refine wpAny_bind ?_
  unfold notIterableAtAll
  refine wpAny_bind (wpAny_specialOf hl.typeIs slot_list_iter.lookup ?_)
  refine wpAny_pure ?_
  simp only [Bool.false_eq_true, if_false]
  refine wpAny_bind (wpAny_holding (wpAny_pyIter_list hl ?_))
  refine wpAny_bind (wpAny_holding (PySem.W.kun_draw hlt i 0 _ _ ⟨_, Heap.get?_push_size _ rfl, rfl, rfl⟩ (hl.push _) (by rw [List.size_toArray]; omega) fun h₁ hit₁ hs₁ => ?_))
  have hl₁ : h₁.IsList l xs.toArray := (hl.push _).extBut hs₁.extBut hlt
  rw [Nat.zero_add] at hit₁
  obtain ⟨oi, hoi, _⟩ := id hit₁
  obtain ⟨ol, hol, _⟩ := id hl₁
  rw [List.drop_zero]
  have hfl : (xs.take i).length = i := by rw [List.length_take]; omega
  rw [if_neg (show ¬ ((xs.take i).length < i) by rw [hfl]; omega)]
  refine wpAny_bind (wpAny_holding (PySem.W.kun_collect (s := { s with heap := h₁ }) (T := "list_iterator") (.inr (.inr (.inl rfl))) (Walks.list (A := A.in1) hh s.heap.objs.size l hlt xs.toArray) (fun j u st => st.1.typeIs) (k := i) (by rw [List.size_toArray]; omega) ⟨hit₁, hl₁⟩ (Heap.lt_size hoi) (Heap.lt_size hol) (fun h₂ tk hk => ?_) (by rw [List.size_toArray, sizeLine_eq]; omega)))
  show wpAny _ _ (if (xs.drop i).length < n - 1 - i then _ else _) _ _ _
  rw [if_neg (by rw [List.length_drop]; omega)]
  have he : ∀ b o, s.heap.get? b = some o → h₂.get? b = some o := fun b o e => hk b o (Nat.ne_of_lt (Heap.lt_size e)) (hs₁.extBut b o (Nat.ne_of_lt (Heap.lt_size e)) (Heap.get?_push_of_some _ e))
  exact star_mid (s := { s with heap := h₂, toks := tk }) hi hn hz fun D h' k1 k2 k3 => hq D h₂ h' tk he k1 k2 k3
end
/-- .. = v, the i-th of n targets takes what is left over -/
def gStar (K : PySem.W.Frag) (n i : Nat) (t : TGs) : TG := fun v σ H Q => ∃ a xs, v = .ref a ∧ (SqT K H a xs ∨ SqL K H a xs) ∧ n ≤ xs.length + 1 ∧ xs.length ≤ 16384 ∧
  ∀ D, H D = none → t (xs.take i ++ [.ref D] ++ (xs.drop i).drop (xs.length + 1 - n)) σ (upd H D (.lst ((xs.drop i).take (xs.length + 1 - n)))) Q
theorem Vals.take {xs : List V} {us : List Value} (r : Vals xs us) : ∀ n, Vals (xs.take n) (us.take n) := fun n => by
  induction r generalizing n with
  | nil => rw [List.take_nil, List.take_nil]; exact .nil
  | cons r rr ih =>
    cases n with
    | zero => exact .nil
    | succ n => exact .cons r (ih n)
theorem Vals.drop {xs : List V} {us : List Value} (r : Vals xs us) : ∀ n, Vals (xs.drop n) (us.drop n) := fun n => by
  induction r generalizing n with
  | nil => rw [List.drop_nil, List.drop_nil]; exact .nil
  | cons r rr ih =>
    cases n with
    | zero => exact .cons r rr
    | succ n => exact ih n
theorem Vals.app {xs ys : List V} {us ws : List Value} (r : Vals xs us) (q : Vals ys ws) : Vals (xs ++ ys) (us ++ ws) := by
  induction r with
  | nil => exact q
  | cons r rr ih => exact .cons r ih
section
variable {X : Cx} {pos : Pos}
theorem pgs_star {e : Expr} {es : List Expr} {t : TG} {u : TGs} {p : Pos} (h1 : PG X e t) (h2 : PGs X es u)
    (hs : (assignEach (.Starred e p :: es) X.env).map (·.2) = assign e X.env :: (assignEach es X.env).map (·.2) := by rfl) : PGs X (.Starred e p :: es) (gCons t u) := by
  refine ⟨fun pins s σ H vs us Q I r h => ?_⟩
  obtain ⟨v, vr, e1, h⟩ := h
  subst e1
  cases r with
  | cons r rr =>
    rw [hs]
    refine assignInOrder_cons (thn (h1.run pins s σ H _ _ _ I r h) fun _ s1 ⟨σ1, H1, I1, q1⟩ => ?_)
    exact h2.run pins s1 σ1 H1 _ _ Q I1 rr q1
theorem g_star {K : PySem.W.Frag} (hK : X.K = K) {es : List Expr} {k : Nat} {t : TGs} {n i : Nat} (hc : X.calm = true) (h : PGs X es t)
    (hn : (assignEach es X.env).length = n := by rfl) (hst : (assignEach es X.env).findIdx? (·.1) = some i := by rfl) (hi : i < n := by decide) : PG X (.Tuple es k pos) (gStar K n i t) := by
  subst hK
  refine ⟨fun pins s σ H v u Q I r hw => ?_⟩
  obtain ⟨a, xs, e1, hq, h2, h3, hw⟩ := hw
  subst e1
  cases r
  rw [PyProof.Rows.assign_Tuple]
  refine wpAny_bind (wpAny_standAt ?_)
  unfold unpack
  rw [hn, hst]
  have fin : ∀ (its : List Value), Vals xs its → ∀ (D : Addr) (h₂ h' : Heap) tk, (∀ b o, s.heap.get? b = some o → h₂.get? b = some o) → (∀ b o, h₂.get? b = some o → h'.get? b = some o) → h₂.objs.size ≤ D →
      h'.get? D = some { cls := .type "list", dict := none, data := .seq ((its.drop i).take (its.length + 1 - n)).toArray 0, slots := #[] } →
      wpAny (model X.prog X.w) X.A (assignInOrder ((assignEach es X.env).map (·.2)) (its.take i ++ [.ref D] ++ (its.drop i).drop (its.length + 1 - n))) (fun _ s' => ∃ σ' H', Inv X pins σ' H' s' ∧ Q σ' H') X.xe { s with heap := h', toks := tk } := fun its rv D h₂ h' tk k1 k2 k3 k4 => by
    have I1 : Inv X pins σ H { s with heap := h₂, toks := tk } := I.kept k1
    have hD : H D = none := I1.hok.fresh k3
    rw [← rv.length] at k4 ⊢
    have rm : Vals ((xs.drop i).take (xs.length + 1 - n)) ((its.drop i).take (xs.length + 1 - n)) := Vals.take (Vals.drop rv i) _
    have I2 : Inv X pins σ (upd H D (.lst ((xs.drop i).take (xs.length + 1 - n)))) { s with heap := h', toks := tk } := I1.laid (t' := tk) k2 k3 (show ObjOk X.prog X.w _ h' _ (.lst _) from ⟨by rw [List.length_take, List.length_drop, sizeLine_eq]; omega, _, 0, rm, k4⟩)
    exact h.run pins _ σ _ _ _ Q I2 (Vals.app (Vals.app (Vals.take rv i) (.cons (show RelV (.ref D) (.ref D) from rfl) .nil)) (Vals.drop (Vals.drop rv i) _)) (hw D hD)
  rcases hq with hq | hq
  · obtain ⟨its, rv, ht, hz⟩ := I.tuple hq
    exact wpAny_bind (wpAny_holding (star_tup ht (I.ok.hd hc) hi (by rw [← rv.length]; exact h2) (by rw [← rv.length]; exact h3) (fin its rv)))
  · obtain ⟨its, rv, ht, hz⟩ := I.list hq
    exact wpAny_bind (wpAny_holding (star_lst ht.isList (I.ok.hd hc) hi (by rw [← rv.length]; exact h2) (by rw [← rv.length]; exact h3) (fin its rv)))
end
/-- by data -/
def D.items : D → Option (List D)
  | .tup xs => some xs
  | .lst xs => some xs
  | _ => none
theorem w_star {G : Gx} {b b' : Nat} {te : TE} {ds : List Sd} {d : D} {E : DE} {is : List Nat} {n i : Nat} {es : List D} (h : EvD G true b b' te ds d) (hd : d.items = some es) (h2 : n ≤ es.length + 1) (h3 : es.length ≤ 16384) (hi : i < n) (hl : is.length = n)
    (k : E.nx (setAll ds is (es.take i ++ [.lst ((es.drop i).take (es.length + 1 - n))] ++ (es.drop i).drop (es.length + 1 - n))) b') : Wt G b (tAsg te (gStar G.K n i (gNames is))) ds E := fun gs M H σ S Dn w =>
  h gs M H σ S _ fun v d' H' r e l rp => by
    subst r
    have S1 := S.step e l
    have main : ∀ a vs, v = .ref a → (SqT G.K H' a vs ∨ SqL G.K H' a vs) → RpA G.K (msk M H') vs es → gStar G.K n i (gNames is) v σ H' Dn.nx := fun a vs e1 hs ra => by
      refine ⟨a, vs, e1, hs, by rw [ra.length]; exact h2, by rw [ra.length]; exact h3, fun D hD => ?_⟩
      rw [ra.length]
      have rm : RpA G.K (msk M H') ((vs.drop i).take (es.length + 1 - n)) ((es.drop i).take (es.length + 1 - n)) := RpA.take _ (RpA.drop i ra)
      have e2 : Ext H' (upd H' D (.lst ((vs.drop i).take (es.length + 1 - n)))) := Ext.new hD
      have S2 := S1.step e2 (S1.lim.upd fun _ z => nomatch z)
      have kp := msk_mono (M := M) e2.toKp
      refine names_run is _ _ σ ds ?_ S2 (((RpA.take i ra).mono kp).append (.cons (new_lst S1.liv hD rm) .nil) |>.append ((RpA.drop _ (RpA.drop i ra)).mono kp)) fun σ' S' => w.nx M b' _ σ' _ S' k
      have := ra.length
      simp only [List.length_append, List.length_take, List.length_drop, List.length_cons, List.length_nil]
      omega
    cases rp with
    | tup hs ha => cases hd; exact main _ _ rfl (.inl (sqt_unm hs)) ha
    | lst hs ha => cases hd; exact main _ _ rfl (.inr (SqL.of (msk_of hs).2)) ha
    | _ => cases hd
end Sh

/-! Sh12: more words by data: slices, joins, sums, kinds. -/
namespace Sh
open PySem PySem.Spec PySem.Calls PyProof.Rows L2

/-! ### a source made of a number and a place -/
section
variable {P : Program} {w : World} {K : PySem.W.Frag} {mg : Str → Option Value} {base : Heap} {k : Nat} {f : Addr} {fd : FuncData} {ps : List Str}
theorem makeI_fn {x qual : Str} {st : Stmt} {N : List Str} (U : Fun K x qual st f fd) (S : FnScope N ps (defScope st)) (hps : ps.length = 2)
    (hbody : ∀ (cdv : Value) (A : Around) (outer : List Env) (s : Shared) (H : Hp) (E : XK), Room k (A.deeper (envOfC qual (defScope st) s.heap.objs.size f cdv)) → Takes (cxOf (L2.CX P w) P w K mg base N qual (defScope st) f cdv A outer s H E) (WD E) →
      ∃ t, PSs (cxOf (L2.CX P w) P w K mg base N qual (defScope st) f cdv A outer s H E) (defBody st) t ∧
        ∀ (M0 : Addr → Prop) (n c : Int) (b : Nat), 0 ≤ c → c < 1000 → Wt (gMake K H M0 E) b t (slots N.length [.int n, .int c]) (eMake b)) :
    FnOk P w K mg base (L2.CX P w) (k + 1) f fd ps (SpD K fdMakeI) := by
  refine makeI_view ?_ hps
  obtain ⟨oc, od, kV, doc, pm, an, cdv, ct, osl, rfl, lk, hcd⟩ := U.ex
  refine fn_of lk hcd S (fun vs H Q E ⟨n, c, e, _⟩ => by rw [e, hps]; rfl) fun A outer s H vs Q E hr hsp => ?_
  obtain ⟨t, h1, h2⟩ := hbody cdv A outer s H E hr (takes_of (E := E) rfl rfl rfl rfl)
  obtain ⟨n, c, rfl, c0, c1, b, hl, k⟩ := hsp
  refine ⟨t, h1, h2 (fun q => H q ≠ none) n c b c0 c1 [] _ H _ (start_stt (fun q h => h) hl (.cons (.int n) (.cons (.int c) .nil))) _ ⟨fun _ _ _ _ _ _ e => e.elim, fun M b' H' σ' ds' v d S' e rp _ => ?_, fun _ _ _ _ _ _ e => e.elim, fun _ _ _ _ _ _ e => e.elim⟩⟩
  obtain ⟨hb', x, y, rfl, g⟩ := e
  cases rp with
  | @lst q vs _ ha r =>
    cases r with
    | cons r1 r => cases r with | cons r2 r => cases r with | cons r3 r =>
      cases r
      cases r1
      cases r2
      cases r3
      obtain ⟨m1, m2⟩ := msk_of ha
      have hq : H q = none := by
        cases e : H q with
        | none => rfl
        | some o => exact absurd (by show H q ≠ none; rw [e]; exact fun z => nomatch z) m1
      exact k q x y H' hq g S'.ext (S'.lim.mono hb') m2
end

/-! ### calls whose answer nothing else knows -/
section
variable {G : Gx} {p : Bool} {b b' b1 b2 : Nat} {te ta tb : TE} {t tk : TA} {ds : List Sd} {F : Fd} {n m : Nat} {E : L2.St → XK} {es : List D}
theorem eos_cl {c : Nat} {R : List D → Prop} (ha : EaD G true b b1 t ds es) (ho : F.own = true) (h1 : es.length = F.n) (h2 : F.dom es) (h3 : F.cost es ≤ c) (h4 : ∀ d, F.res es d → ∃ xs, d = .lst xs ∧ R xs) (h5 : ∀ C x, ¬ F.exn es C x) (hn : es.length = n) (hb : c + b' ≤ b1) (ho2 : F.own2 = false := by rfl) :
    EvO G b b' (tCl n 0 (SpD G.K F) (fun vs _ => vs) E t tNil) ds R := fun gs M H σ S Q k =>
  ha gs M H σ S _ fun vs es' H1 r1 e1 l1 rp1 => by
    subst r1
    have S1 := S.step e1 l1
    refine ⟨by rw [rp1.length, hn], rfl, es', M, b', S1.liv, l1.mono (Nat.le_trans (Nat.add_le_add_right h3 _) hb), rp1, h1, h2, fun v d H3 rd e3 l3 rp3 o => ?_, fun C dd fsV x H3 rx => absurd rx (h5 C x)⟩
    have o := o ho
    rw [ho2] at o
    obtain ⟨a, ws, xs, rfl, rfl, q1, q2, q3⟩ := o
    obtain ⟨ys, e4, r4⟩ := h4 _ rd
    cases e4
    exact k a ws xs H3 r4 (e1.trans e3) l3 (e1.free q1) q2 q3
/-- a copy of a list or a tuple -/
theorem eo_listof {K : PySem.W.Frag} {r : List V → Hp → VK → Prop} (hr : ∀ (p : Addr) (ys : List V) (H : Hp) (Q : VK), (SqL G.K H p ys ∨ SqT G.K H p ys) → (∀ l, H l = none → Q (.ref l) (upd H l (.lst ys))) → r [.ref p] H Q)
    {d : D} {xs : List D} (h : EaD G true b b' t ds [d]) (hd : d.items = some xs) : EoD G b b' (tCB r t) ds xs := fun gs M H σ S Q k =>
  h gs M H σ S _ fun vs es H1 r1 e1 l1 rp => by
    subst r1
    cases rp with
    | cons rp r2 =>
      cases r2
      have main : ∀ a ws, (SqL G.K H1 a ws ∨ SqT G.K H1 a ws) → RpA G.K (msk M H1) ws xs → r [.ref a] H1 Q := fun a ws hs ra => hr a ws H1 Q hs fun l hl => k l ws xs _ rfl (e1.trans (Ext.new hl)) (l1.upd fun _ z => nomatch z) (e1.free hl) upd_same (eo_new (H' := H1) hl ra)
      cases rp with
      | tup hs ha => cases hd; exact main _ _ (.inr (sqt_unm hs)) ha
      | lst hs ha => cases hd; exact main _ _ (.inl (SqL.of (msk_of hs).2)) ha
      | _ => cases hd
end
/-- a copy of our own -/
def rListOf (K : PySem.W.Frag) : List V → Hp → VK → Prop := fun xs H Q => ∃ p ys, xs = [.ref p] ∧ (SqL K H p ys ∨ SqT K H p ys) ∧ ∀ l, H l = none → Q (.ref l) (upd H l (.lst ys))
theorem g_listof {X : Cx} {K : PySem.W.Frag} (hK : X.K = K) : CallR X (.type "list") (rListOf K) := by subst hK; exact call_list_of
def rTupOf (K : PySem.W.Frag) : List V → Hp → VK → Prop := fun xs H Q => ∃ p ys, xs = [.ref p] ∧ ((SqL K H p ys ∧ ∀ l, H l = none → Q (.ref l) (upd H l (.tup ys))) ∨ (SqT K H p ys ∧ Q (.ref p) H))
theorem g_tupof {X : Cx} {K : PySem.W.Frag} (hK : X.K = K) : CallR X (.type "tuple") (rTupOf K) := by subst hK; exact call_tuple_of
section
variable {G : Gx} {p : Bool} {b b' b1 b2 b3 : Nat} {te ta tb : TE} {t tk : TA} {ds : List Sd} {K : PySem.W.Frag} {d x y z : D} {xs ys : List D} {i j : Int}
theorem eo_list (h : EaD G true b b' t ds [d]) (hd : d.items = some xs) : EoD G b b' (tCB (rListOf G.K) t) ds xs := eo_listof (K := G.K) (fun p ys H Q hs k => ⟨p, ys, rfl, hs, k⟩) h hd
theorem eo_listOwn {i : Nat} (hi : ds[i]? = some (.own xs)) : EoD G b b (tCB (rListOf G.K) (tCons (tVar i) tNil)) ds xs := fun gs M H σ S Q k => by
  obtain ⟨a, vs, hσ, m, ha, r, n0⟩ := S.ownL hi
  exact ⟨.ref a, hσ, a, vs, rfl, .inl (SqL.of ha), fun l hl => k l vs xs _ rfl (Ext.new hl) (S.lim.upd fun _ z => nomatch z) hl upd_same (eo_new (H' := H) hl r)⟩
theorem c_listof (hd : d.items = some xs) : ClD K (rListOf K) [d] (.lst xs) := fun N b H vs Q hN l r k => by
  cases r with
  | cons rp r2 =>
    cases r2
    cases rp with
    | tup hs ha => cases hd; exact ⟨_, _, rfl, .inr (sqt_unm hs), fun q hq => k _ _ _ rfl (Ext.new hq) (l.upd fun _ z => nomatch z) (new_lst hN hq ha)⟩
    | lst hs ha => cases hd; exact ⟨_, _, rfl, .inl (SqL.of (msk_of hs).2), fun q hq => k _ _ _ rfl (Ext.new hq) (l.upd fun _ z => nomatch z) (new_lst hN hq ha)⟩
    | _ => cases hd
theorem c_tupof (hd : d.items = some xs) : ClD K (rTupOf K) [d] (.tup xs) := fun N b H vs Q hN l r k => by
  cases r with
  | cons rp r2 =>
    cases r2
    cases rp with
    | tup hs ha => cases hd; exact ⟨_, _, rfl, .inr ⟨sqt_unm hs, k _ _ _ rfl (Ext.refl H) l (.tup hs ha)⟩⟩
    | lst hs ha => cases hd; exact ⟨_, _, rfl, .inl ⟨SqL.of (msk_of hs).2, fun q hq => k _ _ _ rfl (Ext.new hq) (l.upd fun _ z => nomatch z) (new_tup hN hq ha)⟩⟩
    | _ => cases hd

/-! ### + of tuples, of lists -/
theorem o_catT (hl : xs.length + ys.length ≤ 100000) : Op2D K (rAddA K) (.tup xs) (.tup ys) (.tup (xs ++ ys)) := fun N b H v u Q hN l r1 r2 k => by
  cases id r1 with
  | @tup a vs _ h1 a1 =>
    cases id r2 with
    | @tup c ws _ h2 a2 =>
      have e1 := a1.length
      have e2 := a2.length
      refine .inr (.inr (.inr ⟨a, c, vs, ws, rfl, rfl, sqt_unm h1, sqt_unm h2, by rw [e1, e2]; exact Nat.le_trans hl (by decide), fun z => ?_, fun z z2 => ?_, fun z z2 q hq => ?_⟩))
      · subst z
        cases a1
        exact k _ _ _ rfl (Ext.refl H) l (by rw [List.nil_append]; exact r2)
      · subst z2
        cases a2
        exact k _ _ _ rfl (Ext.refl H) l (by rw [List.append_nil]; exact r1)
      · exact k _ _ _ rfl (Ext.new hq) (l.upd fun _ z => nomatch z) (new_tup hN hq (a1.append a2))
theorem o_catL (hl : xs.length + ys.length ≤ 100000) : Op2D K (rAddA K) (.lst xs) (.lst ys) (.lst (xs ++ ys)) := fun N b H v u Q hN l r1 r2 k => by
  cases r1 with
  | @lst a vs _ h1 a1 =>
    cases r2 with
    | @lst c ws _ h2 a2 =>
      have e1 := a1.length
      have e2 := a2.length
      exact .inr (.inr (.inl ⟨a, c, vs, ws, rfl, rfl, (msk_of h1).2, (msk_of h2).2, by rw [e1, e2]; exact Nat.le_trans hl (by decide), fun q hq => k _ _ _ rfl (Ext.new hq) (l.upd fun _ z => nomatch z) (new_lst hN hq (a1.append a2))⟩))
theorem o_addS {s u : Str} (h : s.length + u.length ≤ 100000) : Op2D K (rAddA K) (.str s) (.str u) (.str (s ++ u)) := fun N b H v w Q hN l r1 r2 k => by
  cases r1
  cases r2
  exact .inr (.inl ⟨s, u, rfl, rfl, Nat.le_trans h (by decide), k _ _ _ rfl (Ext.refl H) l (.str _)⟩)
theorem o_rep (h0 : -(2 ^ 62) ≤ i ∧ i < 2 ^ 62) (hl : xs.length * i.toNat ≤ 100000) : Op2D K rMulA (.lst xs) (.int i) (.lst (List.replicate i.toNat xs).flatten) := fun N b H v u Q hN l r1 r2 k => by
  cases r2
  cases r1 with
  | @lst a vs _ h1 a1 =>
    have rep : ∀ n : Nat, RpA K (msk N H) (List.replicate n vs).flatten (List.replicate n xs).flatten := fun n => by
      induction n with
      | zero => exact .nil
      | succ n ih =>
        rw [List.replicate_succ, List.replicate_succ, List.flatten_cons, List.flatten_cons]
        exact a1.append ih
    refine .inr ⟨a, i, vs, rfl, rfl, (msk_of h1).2, by omega, by omega, by rw [a1.length]; exact Nat.le_trans hl (by decide), fun q hq => k _ _ _ rfl (Ext.new hq) (l.upd fun _ z => nomatch z) (new_lst hN hq (rep _))⟩

/-! ### slices -/
def slcD (xs : List D) (lo hi : Option Int) : List D := (xs.drop (HT.sIx xs.length 0 lo)).take (HT.sIx xs.length xs.length hi - HT.sIx xs.length 0 lo)
theorem RpA.cut {H : Hp} {vs : List V} {ds : List D} (r : RpA K H vs ds) (lo hi : Option Int) : RpA K H (cutV vs lo hi) (slcD ds lo hi) := by
  unfold cutV slcD
  rw [r.length]
  exact RpA.take _ (RpA.drop _ r)
def rSlG (K : PySem.W.Frag) : V → Option Int → Option Int → Hp → VK → Prop := fun x lo hi H Q => rSlL K x lo hi H Q ∨ rSlA K x lo hi H Q ∨ rSlS x lo hi H Q
theorem g_slice {X : Cx} (hK : X.K = K) : SlR X (rSlG K) := by subst hK; exact sl_list.or (sl_tupA.or sl_str)
def SlD (K : PySem.W.Frag) (x : D) (lo hi : Option Int) (z : D) : Prop := ∀ (N : Addr → Prop) (b : Nat) (H : Hp) (v : V) (Q : VK), (∀ a, N a → H a ≠ none) → Lim b H → Rp K (msk N H) v x →
  (∀ y H', Ext H H' → Lim b H' → Rp K (msk N H') y z → Q y H') → rSlG K v lo hi H Q
theorem sl_L {lo hi : Option Int} : SlD K (.lst xs) lo hi (.lst (slcD xs lo hi)) := fun N b H v Q hN l r k => by
  cases r with
  | lst h1 a1 => exact .inl ⟨_, _, rfl, SqL.of (msk_of h1).2, fun q hq => k _ _ (Ext.new hq) (l.upd fun _ z => nomatch z) (new_lst hN hq (a1.cut lo hi))⟩
theorem sl_T {lo hi : Option Int} : SlD K (.tup xs) lo hi (.tup (slcD xs lo hi)) := fun N b H v Q hN l r k => by
  cases id r with
  | @tup a vs _ h1 a1 =>
    refine .inr (.inl ⟨a, vs, rfl, sqt_unm h1, fun z => ?_, fun z q hq => k _ _ (Ext.new hq) (l.upd fun _ z => nomatch z) (new_tup hN hq (a1.cut lo hi))⟩)
    have e : slcD xs lo hi = xs := by
      rw [a1.length] at z
      unfold slcD
      rw [z.1, z.2, List.drop_zero, Nat.sub_zero, List.take_length]
    exact k _ _ (Ext.refl H) l (by rw [e]; exact r)
def EpD (G : Gx) (b b' : Nat) (to : TO) (ds : List Sd) (o : Option Int) : Prop := ∀ gs M H σ, G.st gs M b H σ ds → ∀ Q : Option Int → Hp → Prop, (∀ H', Ext H H' → Lim b' H' → Q o H') → to σ H Q
theorem ep_none : EpD G b b tNoPart ds none := fun gs M H σ S Q k => k H (Ext.refl H) S.lim
theorem ep_some (h : EvD G false b b' te ds (.int i)) : EpD G b b' (tPart te) ds (some i) := fun gs M H σ S Q k => h gs M H σ S _ fun v d H' r e l rp => by
  subst r
  cases rp
  exact ⟨i, rfl, k H' e l⟩
theorem ev_slice {tl th : TO} {lo hi : Option Int} (h : EvD G p b b1 te ds x) (hl : EpD G b1 b2 tl ds lo) (hh : EpD G b2 b3 th ds hi) (hs : SlD G.K x lo hi z) : EvD G p b b3 (tSl (rSlG G.K) te tl th) ds z := fun gs M H σ S Q k =>
  h gs M H σ S _ fun v d H1 r e1 l1 rp => hl gs M H1 σ (S.step e1 l1) _ fun H2 e2 l2 => hh gs M H2 σ ((S.step e1 l1).step e2 l2) _ fun H3 e3 l3 => by
    subst r
    have S3 := ((S.step e1 l1).step e2 l2).step e3 l3
    exact hs _ b3 H3 v Q (S3.mm p) l3 ((rp.mono (msk_mono e2.toKp)).mono (msk_mono e3.toKp)) fun y H4 e4 l4 rp4 => k y _ H4 rfl (((e1.trans e2).trans e3).trans e4) l4 rp4

/-! ### sums, all, any, len -/
def rSumT (K : PySem.W.Frag) : List V → Hp → VK → Prop := fun vs H Q => ∃ (a : Addr) (ns : List Int), vs = [V.ref a] ∧ SqT K H a (ns.map V.int) ∧ Q (.int ns.sum) H
theorem cr_sumT {X : Cx} (hc : X.calm = true) : CallR X (.builtin "sum") (rSumT X.K) := by
  intro pins s σ H vs us Q I r h
  obtain ⟨a, ns, rfl, hs, q⟩ := h
  obtain ⟨its, rv, hl, _⟩ := I.tuple hs
  rw [Vals.ref1 r]
  obtain ⟨ys, e⟩ := rv.ints.allInts.items
  have hn : numsOf (intItems ys).toList = ns := by rw [← e]; exact rv.ints.numsOf
  rw [nums_intItems] at hn
  rw [e] at hl
  refine PySem.W.ktm_sumG (I.ok.hd hc) hl fun h' tk t' hk => ?_
  rw [preSum_eq, List.take_of_length_le (by simp), hn]
  exact ⟨.int _, H, I.kept hk, ⟨_, rfl⟩, q⟩
def rSumA (K : PySem.W.Frag) : List V → Hp → VK → Prop := fun vs H Q => rSum K vs H Q ∨ rSumT K vs H Q
theorem g_sum {X : Cx} (hK : X.K = K) (hc : X.calm = true) : CallR X (.builtin "sum") (rSumA K) := by subst hK; exact (cr_sum hc).or (cr_sumT hc)
theorem c_sumL {ns : List Int} (e : xs = ns.map D.int) : ClD K (rSumA K) [.lst xs] (.int ns.sum) := fun N b H vs Q hN l r k => by
  subst e
  cases r with
  | cons rp r2 =>
    cases r2
    cases rp with
    | lst hs ha =>
      have e := RpA.ints ha
      subst e
      exact .inl ⟨_, ns, rfl, SqL.of (msk_of hs).2, k _ _ _ rfl (Ext.refl H) l (.int _)⟩
theorem c_sumT {ns : List Int} (e : xs = ns.map D.int) : ClD K (rSumA K) [.tup xs] (.int ns.sum) := fun N b H vs Q hN l r k => by
  subst e
  cases r with
  | cons rp r2 =>
    cases r2
    cases rp with
    | tup hs ha =>
      have e := RpA.ints ha
      subst e
      exact .inr ⟨_, ns, rfl, sqt_unm hs, k _ _ _ rfl (Ext.refl H) l (.int _)⟩
theorem g_all {X : Cx} (hK : X.K = K) (hc : X.calm = true) : CallR X (.builtin "all") (rAll K) := by subst hK; exact cr_all hc
theorem g_any {X : Cx} (hK : X.K = K) (hc : X.calm = true) : CallR X (.builtin "any") (rAny K) := by subst hK; exact cr_any hc
theorem c_all {bs : List Bool} (e : xs = bs.map D.bl) : ClD K (rAll K) [.lst xs] (.bl (bs.all id)) := fun N b H vs Q hN l r k => by
  subst e
  cases r with
  | cons rp r2 =>
    cases r2
    cases rp with
    | lst hs ha =>
      have e := RpA.bools ha
      subst e
      exact ⟨_, bs, rfl, SqL.of (msk_of hs).2, k _ _ _ rfl (Ext.refl H) l (.bl _)⟩
theorem c_any {bs : List Bool} (e : xs = bs.map D.bl) : ClD K (rAny K) [.lst xs] (.bl (bs.any id)) := fun N b H vs Q hN l r k => by
  subst e
  cases r with
  | cons rp r2 =>
    cases r2
    cases rp with
    | lst hs ha =>
      have e := RpA.bools ha
      subst e
      exact ⟨_, bs, rfl, SqL.of (msk_of hs).2, k _ _ _ rfl (Ext.refl H) l (.bl _)⟩

/-! ### kinds -/
/-- the name of a value's class, built-in -/
def D.kind : D → Option String
  | .non => some "NoneType"
  | .bl _ => some "bool"
  | .int _ => some "int"
  | .str _ => some "str"
  | .lst _ => some "list"
  | .tup _ => some "tuple"
  | .dct _ => some "dict"
  | .dtt _ => some "dict"
  | .scr _ => some "list"
  | _ => none
theorem Rp.tyX {H : Hp} {v : V} {s : String} (r : Rp K H v d) (h : d.kind = some s) : TyX K H v (.type s) := by
  cases r with
  | non => cases h; exact .base .non
  | bl b => cases h; exact .base (.bl b)
  | int b => cases h; exact .base (.int b)
  | str b => cases h; exact .base (.str b)
  | lst ha r => cases h; exact .base (.lst ha)
  | scr ha =>
    cases h
    rcases ha with ⟨o, ha⟩ | ⟨o, its, n, ha, hc, _⟩
    · exact .base (.frz ha)
    · exact .kList ha hc
  | tup ha r =>
    cases h
    rcases ha with (ha | ⟨o, ha⟩) | ⟨o, its, n, ha, hc, _⟩
    · exact .base (.tup ha)
    · exact .fTuple ha
    · exact .kTuple ha hc
  | dct ha r => cases h; exact .base (.dK ha)
  | dtt ha r => cases h; exact .base (.dT ha)
  | _ => cases h
theorem g_isi {X : Cx} (hK : X.K = K) : CallR X (.builtin "isinstance") (rIsi K) := by subst hK; exact call_isi
theorem c_isi {s u : String} {r : Bool} (h : d.kind = some s) (hk : kitB s u = some r) : ClD K (rIsi K) [d, .ty u] (.bl r) := fun N b H vs Q hN l rr k => by
  cases rr with
  | cons r1 r2 =>
    cases r2 with
    | cons r2 r3 =>
      cases r3
      cases r2
      exact ⟨_, _, _, _, r, rfl, .ty u, (r1.mono msk_all).tyX h, kit_ty hk, k _ _ _ rfl (Ext.refl H) l (.bl _)⟩
/-- isinstance(e, (T, U)) -/
theorem g_isiT {X : Cx} (hK : X.K = K) : CallR X (.builtin "isinstance") (rIsiT K) := by subst hK; exact call_isiT
theorem ev_isi2 {s u u2 : String} {r r2 : Bool} (h : EvD G false b b' te ds d) (hd : d.kind = some s) (h1 : kitB s u = some r) (h2 : kitB s u2 = some r2) : EvD G p b b' (tCB (rIsiT G.K) (tCons te (tCons (tTup (tCons (tC (.ty u)) (tCons (tC (.ty u2)) tNil))) tNil))) ds (.bl (r || r2)) := fun gs M H σ S Q k =>
  h gs M H σ S _ fun v d' H1 e e1 l1 rp => by
    subst e
    refine ⟨(by show 2 ≤ sizeLine; rw [sizeLine_eq]; decide), fun a ha => ⟨v, a, [.ty u, .ty u2], _, [.type u, .type u2], r || r2, rfl, upd_same, .cons (.ty u) (.cons (.ty u2) .nil), ((rp.mono msk_all).mono (Ext.new ha).toKp).tyX hd, kitAny_cons (kit_ty h1) (fun e => kitAny_cons (kit_ty h2) (fun e2 => by rw [e, e2]; exact kitAny_nil) fun e2 => by rw [e2, Bool.or_true]) (fun e => by rw [e, Bool.true_or]), ?_⟩⟩
    exact k _ _ _ rfl (e1.trans (Ext.new ha)) (l1.upd fun _ z => nomatch z) (.bl _)
/-- int(..) -/
def rIntI : List V → Hp → VK → Prop := fun xs H Q => (∃ i, xs = [.int i] ∧ Q (.int i) H) ∨ ∃ k, xs = [.bl k] ∧ Q (.int (if k then 1 else 0)) H
theorem g_int {X : Cx} : CallR X (.type "int") rIntI := call_int1
theorem c_intI : ClD K rIntI [.int i] (.int i) := fun N b H vs Q hN l r k => by
  cases r with
  | cons r1 r => cases r; cases r1; exact .inl ⟨i, rfl, k _ _ _ rfl (Ext.refl H) l (.int _)⟩
theorem c_intB {c : Bool} : ClD K rIntI [.bl c] (.int (if c then 1 else 0)) := fun N b H vs Q hN l r k => by
  cases r with
  | cons r1 r => cases r; cases r1; exact .inr ⟨c, rfl, k _ _ _ rfl (Ext.refl H) l (.int _)⟩
/-- abs(..) -/
def rAbsI : List V → Hp → VK → Prop := fun xs H Q => ∃ i, xs = [.int i] ∧ Q (.int (if i < 0 then -i else i)) H
theorem g_abs {X : Cx} : CallR X (.builtin "abs") rAbsI := call_abs
end
/-! ### list(range(..)) -/
section
variable {G : Gx} {p : Bool} {b b' b1 b2 b3 : Nat} {te ta tb : TE} {ds : List Sd} {i j : Int}
theorem rgV_D {K : PySem.W.Frag} {H : Hp} (i j : Int) : RpA K H (rgV i j) ((List.range (j - i).toNat).map fun k => D.int (i + (k : Nat))) := by
  unfold rgV
  induction List.range (j - i).toNat with
  | nil => exact .nil
  | cons x xs ih => exact .cons (.int _) ih
theorem eo_rg1 (h : EvD G false b b' ta ds (.int i)) (h0 : -(2 ^ 62) ≤ i ∧ i ≤ 100000) : EoD G b b' (tLstRg (tRg1 ta)) ds ((List.range i.toNat).map fun k => D.int (k : Nat)) := fun gs M H σ S Q k =>
  h gs M H σ S _ fun v d H1 r e1 l1 rp => by
    subst r
    cases rp
    refine ⟨i, rfl, ⟨by omega, by omega, h0.1, by omega, by omega⟩, fun q hq => ?_⟩
    refine k q _ _ _ ?_ (e1.trans (Ext.new hq)) (l1.upd fun _ z => nomatch z) (e1.free hq) upd_same (eo_new (H' := H1) hq (rgV_D 0 i))
    rw [Int.sub_zero]
    exact List.map_congr_left fun k _ => by rw [Int.zero_add]
theorem eo_rg2 (h : EvD G false b b1 ta ds (.int i)) (h2 : EvD G false b1 b' tb ds (.int j)) (h0 : -(2 ^ 62) ≤ i ∧ i < 2 ^ 62 ∧ -(2 ^ 62) ≤ j ∧ j < 2 ^ 62 ∧ (j - i).toNat ≤ 100000) : EoD G b b' (tLstRg (tRg2 ta tb)) ds ((List.range (j - i).toNat).map fun k => D.int (i + (k : Nat))) := fun gs M H σ S Q k =>
  h gs M H σ S _ fun v d H1 r e1 l1 rp => h2 gs M H1 σ (S.step e1 l1) _ fun u d2 H2 r2 e2 l2 rp2 => by
    subst r r2
    cases rp
    cases rp2
    refine ⟨i, j, rfl, rfl, ⟨h0.1, h0.2.1, h0.2.2.1, h0.2.2.2.1, by omega⟩, fun q hq => ?_⟩
    exact k q _ _ _ rfl ((e1.trans e2).trans (Ext.new hq)) (l2.upd fun _ z => nomatch z) ((e1.trans e2).free hq) upd_same (eo_new (H' := H2) hq (rgV_D i j))
end
end Sh

/-! Sh13: a = b = e, x += e, pop. -/
namespace Sh
open PySem PySem.Spec PySem.Calls PyProof.Rows L2
section
variable {G : Gx} {p : Bool} {b b' b1 b2 b3 : Nat} {te ta tb : TE} {t tk : TA} {ds : List Sd} {d x y z : D} {xs ys : List D} {i j : Nat} {E : DE}
theorem w_asg2 (h : EvD G true b b' te ds d) (k : E.nx ((ds.set i (.dat d)).set j (.dat d)) b') : Wt G b (tAsg2 te (gName i) (gName j)) ds E := fun gs M H σ S Dn w =>
  h gs M H σ S _ fun v d' H' r e l rp => by
    subst r
    exact w.nx M b' H' _ _ (((S.step e l).set rp).set rp) k
/-- name op= e, numbers -/
theorem w_aug {f : Int → Int → Int} {m n : Int} (hi : ds[i]? = some (.dat (.int m))) (h : EvD G false b b' te ds (.int n)) (k : E.nx (ds.set i (.dat (.int (f m n)))) b') : Wt G b (tAug i te (ipI f)) ds E := fun gs M H σ S Dn w => by
  obtain ⟨v, e, r⟩ := S.var hi
  cases r
  refine ⟨_, e, h gs M H σ S _ fun u d' H' r e l rp => ?_⟩
  subst r
  cases rp
  exact ⟨m, n, rfl, rfl, w.nx M b' H' _ _ ((S.step e l).set (.int _)) k⟩
theorem ws_aug {f : Int → Int → Int} {m : Int} {R : Int → Prop} (hi : ds[i]? = some (.dat (.int m))) (h : EvS G false b b' te ds (fun d => ∃ n, d = .int n ∧ R n)) (k : ∀ n, R n → E.nx (ds.set i (.dat (.int (f m n)))) b') : Wt G b (tAug i te (ipI f)) ds E := fun gs M H σ S Dn w => by
  obtain ⟨v, e, r⟩ := S.var hi
  cases r
  refine ⟨_, e, h gs M H σ S _ fun u d' H' r e l rp => ?_⟩
  obtain ⟨n, rfl, q⟩ := r
  cases rp
  exact ⟨m, n, rfl, rfl, w.nx M b' H' _ _ ((S.step e l).set (.int _)) (k n q)⟩
theorem w_par {d1 d2 : D} (h : EaD G true b b' t ds [d1, d2]) (k : E.nx ((ds.set i (.dat d1)).set j (.dat d2)) b') : Wt G b (tPar i j t) ds E := fun gs M H σ S Dn w =>
  h gs M H σ S _ fun vs es H' r e l rp => by
    subst r
    cases rp with
    | cons r1 r2 => cases r2 with
      | cons r2 r3 =>
        cases r3
        exact ⟨_, _, rfl, w.nx M b' H' _ _ (((S.step e l).set r1).set r2) k⟩
theorem ev_ty {n : String} : EvD G p b b (tC (.ty n)) ds (.ty n) := fun gs M H σ S Q k => k _ _ H rfl (Ext.refl H) S.lim (.ty n)
end
theorem gi_add {X : Cx} : PIp X .Add (ipI fun i j => i + j) := ip_add
theorem gi_sub {X : Cx} : PIp X .Sub (ipI fun i j => i - j) := ip_sub
theorem g_append {X : Cx} : MtR X "list.append" rAppend := mt_append
theorem g_popAt {X : Cx} : MtR X "list.pop" rPopAt := mt_popAt
end Sh
namespace Sh
open PySem PySem.Spec PySem.Calls PyProof.Rows L2
theorem EvD.wk {G : Gx} {p : Bool} {b b' : Nat} {te : TE} {ds : List Sd} {d : D} (h : EvD G true b b' te ds d) : EvD G p b b' te ds d := EvS.wk h
theorem EvA.imp {G : Gx} {p : Bool} {b b' : Nat} {t : TA} {ds : List Sd} {R R' : List D → Prop} (h : EvA G p b b' t ds R) (i : ∀ es, R es → R' es) : EvA G p b b' t ds R' := fun gs M H σ S Q k => h gs M H σ S Q fun vs es H' r => k vs es H' (i es r)
end Sh
namespace Sh
open PySem PySem.Spec PySem.Calls PyProof.Rows L2
theorem kb_NoneType_bool : kitB "NoneType" "bool" = some false := by decide +kernel
theorem kb_NoneType_int : kitB "NoneType" "int" = some false := by decide +kernel
theorem kb_NoneType_str : kitB "NoneType" "str" = some false := by decide +kernel
theorem kb_NoneType_list : kitB "NoneType" "list" = some false := by decide +kernel
theorem kb_NoneType_tuple : kitB "NoneType" "tuple" = some false := by decide +kernel
theorem kb_NoneType_dict : kitB "NoneType" "dict" = some false := by decide +kernel
theorem kb_bool_bool : kitB "bool" "bool" = some true := by decide +kernel
theorem kb_bool_int : kitB "bool" "int" = some true := by decide +kernel
theorem kb_bool_str : kitB "bool" "str" = some false := by decide +kernel
theorem kb_bool_list : kitB "bool" "list" = some false := by decide +kernel
theorem kb_bool_tuple : kitB "bool" "tuple" = some false := by decide +kernel
theorem kb_bool_dict : kitB "bool" "dict" = some false := by decide +kernel
theorem kb_int_bool : kitB "int" "bool" = some false := by decide +kernel
theorem kb_int_int : kitB "int" "int" = some true := by decide +kernel
theorem kb_int_str : kitB "int" "str" = some false := by decide +kernel
theorem kb_int_list : kitB "int" "list" = some false := by decide +kernel
theorem kb_int_tuple : kitB "int" "tuple" = some false := by decide +kernel
theorem kb_int_dict : kitB "int" "dict" = some false := by decide +kernel
theorem kb_str_bool : kitB "str" "bool" = some false := by decide +kernel
theorem kb_str_int : kitB "str" "int" = some false := by decide +kernel
theorem kb_str_str : kitB "str" "str" = some true := by decide +kernel
theorem kb_str_list : kitB "str" "list" = some false := by decide +kernel
theorem kb_str_tuple : kitB "str" "tuple" = some false := by decide +kernel
theorem kb_str_dict : kitB "str" "dict" = some false := by decide +kernel
theorem kb_list_bool : kitB "list" "bool" = some false := by decide +kernel
theorem kb_list_int : kitB "list" "int" = some false := by decide +kernel
theorem kb_list_str : kitB "list" "str" = some false := by decide +kernel
theorem kb_list_list : kitB "list" "list" = some true := by decide +kernel
theorem kb_list_tuple : kitB "list" "tuple" = some false := by decide +kernel
theorem kb_list_dict : kitB "list" "dict" = some false := by decide +kernel
theorem kb_tuple_bool : kitB "tuple" "bool" = some false := by decide +kernel
theorem kb_tuple_int : kitB "tuple" "int" = some false := by decide +kernel
theorem kb_tuple_str : kitB "tuple" "str" = some false := by decide +kernel
theorem kb_tuple_list : kitB "tuple" "list" = some false := by decide +kernel
theorem kb_tuple_tuple : kitB "tuple" "tuple" = some true := by decide +kernel
theorem kb_tuple_dict : kitB "tuple" "dict" = some false := by decide +kernel
theorem kb_dict_bool : kitB "dict" "bool" = some false := by decide +kernel
theorem kb_dict_int : kitB "dict" "int" = some false := by decide +kernel
theorem kb_dict_str : kitB "dict" "str" = some false := by decide +kernel
theorem kb_dict_list : kitB "dict" "list" = some false := by decide +kernel
theorem kb_dict_tuple : kitB "dict" "tuple" = some false := by decide +kernel
theorem kb_dict_dict : kitB "dict" "dict" = some true := by decide +kernel
end Sh
namespace Sh
open PySem PySem.Spec PySem.Calls PyProof.Rows L2
theorem Cal.cas {F : Fd} {es : List D} {z : D} (h : Cal F es z) : Cas F es 0 (fun d => d = z) := ⟨h.n, h.dom, by rw [h.cost]; exact Nat.le_refl _, h.res, h.exn⟩
section
variable {G : Gx} {p : Bool} {b b' b1 b2 : Nat} {ta tb tc : TE} {ds : List Sd} {F : Fd} {E : L2.St → XK} {c : Nat} {R R1 : D → Prop} {R2 : D → D → Prop} {y : D}
/-- f(e), f(e1, e2) of what is not known for certain -/
theorem evs_cl1 (h1 : EvS G p b b1 ta ds R1) (h : ∀ x, R1 x → Cas F [x] c R) (hb : c + b' ≤ b1) : EvS G p b b' (tCl 1 0 (SpD G.K F) (fun vs _ => vs) E (tCons ta tNil) tNil) ds R :=
  (evs_cl (F := F) (gD := fun es _ => es) (fs := []) (eas_cons h1 fun x _ => ea_nil) ea_nil (fun _ _ _ _ _ r _ => r) rfl fun es' ⟨x, r, e, q1, q2⟩ => by
    subst e q2
    have q := h x q1
    exact ⟨rfl, q.n, q.dom, Nat.le_trans (Nat.add_le_add_right q.cost _) hb, fun C x z => absurd z (q.exn C x)⟩).imp fun d ⟨es', ⟨x, r, e, q1, q2⟩, q⟩ => by
    subst e q2
    exact (h x q1).res d q
theorem evs_cl2 (h1 : EvS G p b b1 ta ds R1) (h2 : ∀ x, R1 x → EvD G p b1 b2 tb ds y) (h : ∀ x, R1 x → Cas F [x, y] c R) (hb : c + b' ≤ b2 := by omega) : EvS G p b b' (tCl 2 0 (SpD G.K F) (fun vs _ => vs) E (tCons ta (tCons tb tNil)) tNil) ds R :=
  (evs_cl (F := F) (gD := fun es _ => es) (fs := []) (eas_cons (R2 := fun _ r => r = [y]) h1 fun x hx => ea_cons (h2 x hx) ea_nil) ea_nil (fun _ _ _ _ _ r _ => r) rfl fun es' ⟨x, r, e, q1, q2⟩ => by
    subst e q2
    have q := h x q1
    exact ⟨rfl, q.n, q.dom, Nat.le_trans (Nat.add_le_add_right q.cost _) hb, fun C x z => absurd z (q.exn C x)⟩).imp fun d ⟨es', ⟨x, r, e, q1, q2⟩, q⟩ => by
    subst e q2
    exact (h x q1).res d q
end
end Sh

/-! Sh14: expressions that change a list of our own. -/
namespace Sh
open PySem PySem.Spec PySem.Calls PyProof.Rows L2
/-- te changes our own list at slot i0 -/
def EvX (G : Gx) (i0 : Nat) (b b' : Nat) (te : TE) (ds : List Sd) (R : D → List D → Prop) : Prop :=
  ∀ gs M H σ, G.st gs M b H σ ds → ∀ Q : VK, (∀ v d ys vs a H1, R d ys → σ[i0]? = some (some (.ref a)) → Ext H H1 → Lim b' H1 → RpA G.K (msk M H1) vs ys → Rp G.K (msk M H1) v d → Q v (upd H1 a (.lst vs))) → te σ H Q
theorem RpA.eraseIdx {K : PySem.W.Frag} {H : Hp} : ∀ {vs : List V} {ds : List D} (n : Nat), RpA K H vs ds → RpA K H (vs.eraseIdx n) (ds.eraseIdx n)
  | _, _, _, .nil => by rw [List.eraseIdx_nil, List.eraseIdx_nil]; exact .nil
  | _, _, 0, .cons _ q => q
  | _, _, n + 1, .cons p q => .cons p (RpA.eraseIdx n q)
/-- xs.pop(e), xs our own -/
theorem evx_pop {G : Gx} {i0 b b' : Nat} {ti : TE} {ds : List Sd} {xs : List D} {R1 : Nat → Prop} (hi : ds[i0]? = some (.own xs)) (h : EvS G true b b' ti ds (fun d => ∃ k : Nat, d = .int (k : Int) ∧ R1 k)) (hk : ∀ k, R1 k → k < xs.length) (hl : xs.length ≤ 100000) :
    EvX G i0 b b' (tBM G.K "list" rPopAt (tVar i0) (tCons ti tNil)) ds (fun d ys => ∃ k, R1 k ∧ xs[k]? = some d ∧ ys = xs.eraseIdx k) := fun gs M H σ S Q kk => by
  obtain ⟨a, vs, hσ, m, ha, r, n0⟩ := S.ownL hi
  refine ⟨.ref a, hσ, .inl ⟨rfl, vs, SqL.of ha⟩, ?_⟩
  refine h gs M H σ S _ fun v d H1 rd e l rp => ?_
  obtain ⟨k, rfl, r1⟩ := rd
  cases rp
  have ha' : H1 a = some (.lst vs) := e.keep _ _ ha fun _ z => nomatch z
  have hk' := hk k r1
  have len := r.length
  have hkv : k < vs.length := by omega
  have r2 := r.mono (msk_mono e.toKp)
  obtain ⟨d, hd, rd⟩ := r2.get (i := k) (List.getElem?_eq_getElem hkv)
  refine ⟨a, vs, (k : Int), k, vs[k], rfl, rfl, ha', by omega, by omega, ?_, List.getElem?_eq_getElem hkv, ?_⟩
  · unfold seqIndex?
    have e1 : (if (k : Int) < 0 then (k : Int) + (vs.length : Int) else (k : Int)) = (k : Int) := if_neg (by omega)
    show (if (decide (0 ≤ (if (k : Int) < 0 then (k : Int) + (vs.length : Int) else (k : Int))) && decide ((if (k : Int) < 0 then (k : Int) + (vs.length : Int) else (k : Int)) < (vs.length : Int))) = true then some (if (k : Int) < 0 then (k : Int) + (vs.length : Int) else (k : Int)).toNat else none) = some k
    rw [e1, decide_eq_true (by omega), decide_eq_true (by omega)]
    rfl
  · exact kk _ d _ _ a H1 ⟨k, r1, hd, rfl⟩ hσ e l (r2.eraseIdx k) rd
theorem wipe_get (σ : List (Option V)) (i : Nat) : ∀ vs : List Nat, i ∉ vs → (L2.wipe σ vs)[i]? = σ[i]?
  | [], _ => rfl
  | v :: vs, h => by
    show ((L2.wipe σ vs).set v none)[i]? = σ[i]?
    rw [List.getElem?_set_ne (fun z => h (by rw [z]; exact List.mem_cons_self)), wipe_get σ i vs fun z => h (List.mem_cons_of_mem _ z)]
/-- what a comprehension makes whose items change our own list -/
def EvXO (G : Gx) (i0 : Nat) (b b' : Nat) (te : TE) (ds : List Sd) (R : List D → List D → Prop) : Prop :=
  ∀ gs M H σ, G.st gs M b H σ ds → ∀ Q : VK, (∀ D M' vs xs ys H', R xs ys → G.st gs M' b' H' σ (ds.set i0 (.own ys)) → M' D → ¬ G.M0 D → G.H0 D = none → H' D = some (.lst vs) → RpA G.K (msk M' H') vs xs → Q (.ref D) H') → te σ H Q
theorem evx_lc {G : Gx} {i0 b b1 b' : Nat} {wi : TI} {g : TG} {te : TE} {vs : List Nat} {ds : List Sd} {n : Nat} {it : Nat → D} {ys0 : List D} (c : Nat) (P : Nat → List D → List D → Prop) (hi : EvI G b b1 wi ds n it) (hn : n ≤ 100000) (h0 : ds[i0]? = some (.own ys0)) (hv : i0 ∉ vs) (hp : P 0 [] ys0)
    (hs : ∀ i acc ys, i < n → P i acc ys → ∃ ds'', TgR G.K vs g (it i) (wipeD (ds.set i0 (.own ys)) vs) ds'' ∧ ∀ b0, EvX G i0 (b0 + c) b0 te ds'' (fun d ys' => P (i + 1) (acc ++ [d]) ys'))
    (hm : ∀ i acc ys, P i acc ys → acc.length ≤ i) (hb : b' + n * c ≤ b1) : EvXO G i0 b b' (tLc wi g tYes te vs) ds (P n) := fun gs M H σ S Q k =>
  hi gs M H σ S _ fun J gs' H1 e l hg ok => fun D hD => by
    have S1 : Stt G.K G.H0 G.M0 (gs' ++ gs) M b1 H1 σ ds := (S.step e l).ghosts hg
    have nMD : ¬ M D := fun z => S1.liv D z hD
    obtain ⟨a0, vs0, hσ0, m0, ha0, r0, n00⟩ := S1.ownL h0
    have nDa : a0 ≠ D := ne_of_none ha0 hD
    have st : ∀ b2 Hx vsy ys, Ext H1 Hx → Lim b2 Hx → Hx D ≠ none → RpA G.K (msk (fun a => M a ∨ a = D) Hx) vsy ys → Stt G.K G.H0 G.M0 (gs' ++ gs) (fun a => M a ∨ a = D) b2 (upd Hx a0 (.lst vsy)) σ (ds.set i0 (.own ys)) := fun b2 Hx vsy ys e2 l2 hD2 ry => (S1.grow hD e2 l2 hD2).chg h0 hσ0 ry
    refine ⟨fun i m H => m = n - i ∧ i ≤ n ∧ ∃ acc es Hx vsy ys, H = upd Hx a0 (.lst vsy) ∧ Ext H1 Hx ∧ Lim (b' + (n - i) * c) Hx ∧ Hx D = some (.lst acc) ∧ RpA G.K (msk (fun a => M a ∨ a = D) Hx) acc es ∧ RpA G.K (msk (fun a => M a ∨ a = D) Hx) vsy ys ∧ P i es ys, ⟨n, by omega, Nat.zero_le _, [], [], upd H1 D (.lst []), vs0, ys0, ?_, Ext.new hD, (S1.lim.mono hb).upd (fun _ z => nomatch z), upd_same, .nil, eo_new (H' := H1) hD r0 |>.mono (msk_mono (Ext.refl _).toKp) |> fun q => ?_, hp⟩, ?_⟩
    · funext x
      by_cases hx : x = a0
      · rw [hx, upd_same, upd_ne nDa, ha0]
      · rw [upd_ne hx]
    · refine r0.mono (Kp.sub fun c o h => ?_)
      obtain ⟨h1, h2⟩ := msk_of h
      have nc : c ≠ D := ne_of_none h2 hD
      rw [msk_no fun z => z.elim h1 nc, upd_ne nc]
      exact h2
    rintro i m H2 ⟨rfl, hin, acc, es, Hx, vsy, ys, rfl, e2, l2, hacc, racc, ry, p2⟩
    have S2 := st _ Hx vsy ys e2 l2 (by rw [hacc]; exact fun z => nomatch z) ry
    have hl2 : Lim (b' + (n - i) * c) (upd Hx a0 (.lst vsy)) := l2.upd fun _ z => nomatch z
    have hacc2 : (upd Hx a0 (.lst vsy)) D = some (.lst acc) := by rw [upd_ne (Ne.symm nDa)]; exact hacc
    have ma : (fun a => M a ∨ a = D) a0 := .inl m0
    have mku : msk (fun a => M a ∨ a = D) (upd Hx a0 (.lst vsy)) = msk (fun a => M a ∨ a = D) Hx := msk_upd ma
    by_cases hlt : i < n
    · refine .inr ⟨ok.go i _ _ S2.gh' hlt, fun H => ∃ acc es Hx vsy ys, H = upd Hx a0 (.lst vsy) ∧ Ext H1 Hx ∧ Lim (b' + (n - (i + 1)) * c) Hx ∧ Hx D = some (.lst acc) ∧ RpA G.K (msk (fun a => M a ∨ a = D) Hx) acc es ∧ RpA G.K (msk (fun a => M a ∨ a = D) Hx) vsy ys ∧ P (i + 1) es ys, fun H' z => ⟨n - (i + 1), by omega, rfl, hlt, z⟩, fun x H3 y => ?_⟩
      obtain ⟨x1, x2, x3⟩ := ok.yld i _ _ S2.gh' hlt x H3 y
      obtain ⟨ds'', t1, t2⟩ := hs i es ys hlt p2
      have ec : b' + (n - i) * c = (b' + (n - (i + 1)) * c) + c := by
        have e3 : n - i = (n - (i + 1)) + 1 := by omega
        rw [e3, Nat.add_mul, Nat.one_mul, Nat.add_assoc]
      have S3 := (S2.step x1 (x2 _ hl2)).wipe vs
      rw [ec] at S3
      refine t1 _ _ _ _ _ H3 _ x S3 x3 _ fun σ4 S4 ew => ⟨?_, ?_⟩
      · rw [ew]
        have ww : ∀ ws : List Nat, (∀ v ∈ ws, v ∈ vs) → L2.wipe (L2.wipe σ ws) vs = L2.wipe σ vs := fun ws => by
          induction ws with
          | nil => intro _; rfl
          | cons v ws ih =>
            intro hv
            show L2.wipe ((L2.wipe σ ws).set v none) vs = L2.wipe σ vs
            rw [wipe_in _ _ _ _ (hv v List.mem_cons_self), ih fun u hu => hv u (List.mem_cons_of_mem _ hu)]
        exact ww vs fun _ h => h
      · show te σ4 H3 _
        refine t2 (b' + (n - (i + 1)) * c) _ _ H3 σ4 S4 _ fun v d ys' vs' a H4 rd hσ4 e4 l4 ry' rp => ?_
        have ea : a = a0 := by
          have q1 := wipe_get σ4 i0 vs hv
          have q2 := wipe_get (L2.wipe σ vs) i0 vs hv
          rw [ew, q2, wipe_get σ i0 vs hv, hσ0, hσ4] at q1
          injection q1 with q1
          injection q1 with q1
          injection q1 with q1
          exact q1.symm
        subst ea
        have hacc4 : H4 D = some (.lst acc) := e4.keep _ _ (x1.keep _ _ hacc2 fun _ z => nomatch z) fun _ z => nomatch z
        have hacc5 : (upd H4 a (.lst vs')) D = some (.lst acc) := by rw [upd_ne (Ne.symm nDa)]; exact hacc4
        have e24 := x1.trans e4
        have len : acc.length ≤ n := by
          rw [racc.length]
          exact Nat.le_trans (hm i es ys p2) hin
        -- all but a and D as in H1
        let Hy := upd (upd H4 a (.lst vs0)) D (.lst (acc ++ [v]))
        have kp : Ext H1 Hy := ⟨⟨fun c o hc no => by
            have nc : c ≠ D := ne_of_none hc hD
            show (upd (upd H4 a (.lst vs0)) D (.lst (acc ++ [v]))) c = some o
            rw [upd_ne nc]
            by_cases hca : c = a
            · rw [hca, upd_same, ← hc, hca, ha0]
            · rw [upd_ne hca]
              exact e24.keep c o (by rw [upd_ne hca]; exact e2.keep c o hc no) no, fun c j hc => by
            have nc : c ≠ D := ne_of_none hc hD
            have hca : c ≠ a := fun z => by rw [z, ha0] at hc; unfold PurseO at hc; cases hc
            obtain ⟨j1, hj1⟩ := e2.pz c j hc
            obtain ⟨j2, hj2⟩ := e24.pz c j1 (by rw [upd_ne hca]; exact hj1)
            exact ⟨j2, by show (upd (upd H4 a (.lst vs0)) D (.lst (acc ++ [v]))) c = _; rw [upd_ne nc, upd_ne hca]; exact hj2⟩⟩, fun c hc => by
            show (upd (upd H4 a (.lst vs0)) D (.lst (acc ++ [v]))) c ≠ none
            by_cases nc : c = D
            · rw [nc, upd_same]; exact fun z => nomatch z
            · rw [upd_ne nc]
              by_cases hca : c = a
              · rw [hca, upd_same]; exact fun z => nomatch z
              · rw [upd_ne hca]
                exact e24.dom c (by rw [upd_ne hca]; exact e2.dom c hc)⟩
        have mk : ∀ f : Addr → Prop, (∀ c, (fun a => M a ∨ a = D) c → f c) → msk (fun a => M a ∨ a = D) Hy = msk (fun a => M a ∨ a = D) H4 := fun _ _ => by
          show msk _ (upd (upd H4 a (.lst vs0)) D _) = _
          rw [msk_upd (.inr rfl), msk_upd ma]
        have mk := mk (fun _ => True) fun _ _ => trivial
        have l5 : Lim (b' + (n - (i + 1)) * c) (upd H4 a (.lst vs0)) := l4.upd fun _ z => nomatch z
        have l6 : Lim (b' + (n - (i + 1)) * c) Hy := l5.upd (a := D) (o := .lst (acc ++ [v])) fun _ z => nomatch z
        refine ⟨acc, hacc5, Nat.lt_of_le_of_lt (Nat.le_trans len hn) (by decide), acc ++ [v], es ++ [d], Hy, vs', ys', ?_, kp, l6, upd_same, ?_, ?_, rd⟩
        · funext c
          show (upd (upd H4 a (.lst vs')) D (.lst (acc ++ [v]))) c = (upd (upd (upd H4 a (.lst vs0)) D (.lst (acc ++ [v]))) a (.lst vs')) c
          by_cases hca : c = a
          · rw [hca, upd_same, upd_ne nDa, upd_same]
          · rw [upd_ne hca]
            by_cases nc : c = D
            · rw [nc, upd_same, upd_same]
            · rw [upd_ne nc, upd_ne nc, upd_ne hca, upd_ne hca]
        · rw [mk]
          refine RpA.append ?_ (.cons rp .nil)
          have q := racc
          rw [← mku] at q
          exact q.mono (msk_mono e24.toKp)
        · rw [mk]
          exact ry'
    · have en : i = n := by omega
      subst en
      refine .inl ⟨ok.stop _ _ S2.gh', ?_⟩
      have S2' : Stt G.K G.H0 G.M0 gs (fun a => M a ∨ a = D) b' (upd Hx a0 (.lst vsy)) σ (ds.set i0 (.own ys)) := S2.unghosts.weak (Nat.le_add_right _ _)
      exact k D _ acc es ys _ p2 S2' (.inr rfl) (fun z => nMD (S1.m0 D z)) (S1.ext.free hD) hacc2 (by rw [mku]; exact racc)
/-- return [..] -/
theorem ws_retX {G : Gx} {i0 b b' : Nat} {te : TE} {ds : List Sd} {E : DE} {R : List D → List D → Prop} (h : EvXO G i0 b b' te ds R) (k : ∀ xs ys, R xs ys → E.rt (.lst xs) (ds.set i0 (.own ys)) b') (ho : E.ro2 = false := by rfl) : Wt G b (tRet te) ds E := fun gs M H σ S Dn w =>
  h gs M H σ S _ fun D M' vs xs ys H' r S' m n0 hD0 hD rr => by
    have rm : RpA G.K (msk (fun c => G.M0 c ∨ c = D) H') vs xs := rr.mono (msk_sub fun c hc => hc.elim (S'.m0 c) fun z => by rw [z]; exact m)
    exact w.rt M' b' H' σ _ _ _ S' (k xs ys r) (.lst (by rw [msk_no n0]; exact hD) (rm.mono (msk_sub fun c hc => .inl hc))) fun _ => (by rw [ho]; exact ⟨D, vs, xs, rfl, rfl, hD0, hD, rm⟩)
/-- xs[k] = e, xs our own, e not known for certain -/
theorem ws_setO {G : Gx} {b b1 b2 : Nat} {te ti : TE} {ds : List Sd} {R : D → Prop} {E : DE} {i : Nat} {k : Int} {xs : List D} (hi : ds[i]? = some (.own xs)) (h : EvS G true b b1 te ds R) (hk : EvD G true b1 b2 ti ds (.int k)) (h0 : 0 ≤ k) (h1 : k < xs.length) (kk : ∀ d, R d → E.nx (ds.set i (.own (xs.set k.toNat d))) b2) :
    Wt G b (tAsg te (gSub (tVar i) ti rSetA)) ds E := fun gs M H σ S Dn w => by
  refine h gs M H σ S _ fun v d' H1 r e1 l1 rp => ?_
  have S1 := S.step e1 l1
  obtain ⟨a, vs, hσ, m, ha, rr, n0⟩ := S1.ownL hi
  refine ⟨.ref a, hσ, ?_⟩
  refine hk gs M H1 σ S1 _ fun v2 d2 H2 r2 e2 l2 rp2 => ?_
  subst r2
  cases rp2
  have S2 := S1.step e2 l2
  have ha2 : H2 a = some (.lst vs) := e2.keep _ _ ha fun _ z => nomatch z
  have hl : k < vs.length := by rw [rr.length]; exact h1
  exact .inl ⟨a, vs, k, k.toNat, rfl, rfl, ha2, ixN_nn h0 hl, w.nx M b2 _ σ _ (S2.chg hi hσ (RpA.set (rp.mono (msk_mono e2.toKp)) _ (rr.mono (msk_mono e2.toKp)))) (kk d' r)⟩
/-- f(e, ..), e not known for certain, the rest is -/
theorem evs_clH {G : Gx} {p : Bool} {b b' b1 b2 n c : Nat} {ta : TE} {t : TA} {ds : List Sd} {F : Fd} {E : L2.St → XK} {R R1 : D → Prop} {ys : List D} (h1 : EvS G p b b1 ta ds R1) (h2 : ∀ x, R1 x → EaD G p b1 b2 t ds ys) (h : ∀ x, R1 x → Cas F (x :: ys) c R) (hn : ys.length + 1 = n) (hb : c + b' ≤ b2) :
    EvS G p b b' (tCl n 0 (SpD G.K F) (fun vs _ => vs) E (tCons ta t) tNil) ds R :=
  (evs_cl (F := F) (gD := fun es _ => es) (fs := []) (eas_cons (R2 := fun _ r => r = ys) h1 h2) ea_nil (fun _ _ _ _ _ r _ => r) rfl fun es' ⟨x, r, e, q1, q2⟩ => by
    subst e q2
    have q := h x q1
    exact ⟨hn, q.n, q.dom, Nat.le_trans (Nat.add_le_add_right q.cost _) hb, fun C x z => absurd z (q.exn C x)⟩).imp fun d ⟨es', ⟨x, r, e, q1, q2⟩, q⟩ => by
    subst e q2
    exact (h x q1).res d q
end Sh
namespace Sh
open PySem PySem.Spec PySem.Calls PyProof.Rows L2
theorem EvX.imp {G : Gx} {i0 b b' : Nat} {te : TE} {ds : List Sd} {R R' : D → List D → Prop} (h : EvX G i0 b b' te ds R) (i : ∀ d ys, R d ys → R' d ys) : EvX G i0 b b' te ds R' := fun gs M H σ S Q k => h gs M H σ S Q fun v d ys vs a H1 r => k v d ys vs a H1 (i d ys r)
end Sh
namespace Sh
open PySem PySem.Spec PySem.Calls PyProof.Rows L2
theorem g_bm {X : Cx} {K : PySem.W.Frag} {o e : Expr} {es : List Expr} {to : TE} {t : TA} {name : Str} {apos cpos : Pos} {T id : String} {r : V → List V → Hp → VK → Prop} (hK : X.K = K) (pa : PlainAttrs T) (slot : Slot T name id) (hty : typeOf (.builtin id) = pure (.type "method_descriptor")) (hm : MtR X id r) (ho : PE X o to) (ha : PA X (e :: es) t)
    (hbase : attributeBase o name X.env (eval o X.env) = eval o X.env := by rfl)
    (hfew : ((backTo cpos (starEach (e :: es) X.env)).all (fun x => !x.1) && (backToKw cpos (keywordEach [] X.env)).all (fun x => x.1.isSome)
      && decide ((e :: es).length + ([] : List Keyword).length + (if ([] : List Keyword).isEmpty then 0 else 1) < 30)) = true := by rfl)
    (hline : (apos.endLine == cpos.line) = true := by rfl) (hs : starEach (e :: es) X.env = (false, eval e X.env) :: starEach es X.env := by rfl) (hplain : (backTo cpos (starEach es X.env)).any (·.1) = false := by rfl) :
    PE X (.Call (.Attribute o name apos) (e :: es) [] cpos) (tBM K T r to t) := by
  subst hK
  exact pe_bm pa slot hty hm ho ha hbase hfew hline hs hplain
end Sh
namespace Sh
open PySem PySem.Spec PySem.Calls PyProof.Rows L2
theorem Wt.less {G : Gx} {b b' : Nat} {t : TS} {ds : List Sd} {E : DE} (h : Wt G b' t ds E) (hb : b' ≤ b) : Wt G b t ds E := fun gs M H σ S Dn w => h gs M H σ (S.weak hb) Dn w
/-- f(e1, e2, e3), e3 not known for certain -/
theorem evs_cl3 {G : Gx} {p : Bool} {b b' b1 b2 b3 c : Nat} {ta tb tc : TE} {ds : List Sd} {F : Fd} {E : L2.St → XK} {R R3 : D → Prop} {x y : D} (h1 : EvD G p b b1 ta ds x) (h2 : EvD G p b1 b2 tb ds y) (h3 : EvS G p b2 b3 tc ds R3) (h : ∀ z, R3 z → Cas F [x, y, z] c R) (hb : c + b' ≤ b3) :
    EvS G p b b' (tCl 3 0 (SpD G.K F) (fun vs _ => vs) E (tCons ta (tCons tb (tCons tc tNil))) tNil) ds R :=
  (evs_cl (F := F) (gD := fun es _ => es) (fs := []) (eas_cons (R2 := fun _ r => ∃ z, r = [y, z] ∧ R3 z) h1 fun _ _ => EvA.imp (eas_cons (R2 := fun _ r => ∃ z, r = [z] ∧ R3 z) h2 fun _ _ => EvA.imp (eas_cons (R2 := fun _ r => r = []) h3 fun _ _ => ea_nil) fun es ⟨z, r, e, q1, q2⟩ => ⟨z, by rw [e, q2], q1⟩) fun es ⟨z, r, e, q1, w, q2, q3⟩ => ⟨w, by rw [e, q1, q2], q3⟩) ea_nil (fun _ _ _ _ _ r _ => r) rfl fun es' ⟨x', r, e, q1, z, q2, q3⟩ => by
    subst e q1 q2
    have q := h z q3
    exact ⟨rfl, q.n, q.dom, Nat.le_trans (Nat.add_le_add_right q.cost _) hb, fun C x z => absurd z (q.exn C x)⟩).imp fun d ⟨es', ⟨x', r, e, q1, z, q2, q3⟩, q⟩ => by
    subst e q1 q2
    exact (h z q3).res d q
theorem Cas.imp {F : Fd} {es : List D} {c : Nat} {R R' : D → Prop} (h : Cas F es c R) (i : ∀ d, R d → R' d) : Cas F es c R' := ⟨h.n, h.dom, h.cost, fun d q => i d (h.res d q), h.exn⟩
end Sh
namespace Sh
open PySem PySem.Spec PySem.Calls PyProof.Rows L2
theorem evs_clA {G : Gx} {p : Bool} {b b' b1 n c : Nat} {t : TA} {ds : List Sd} {F : Fd} {E : L2.St → XK} {R : D → Prop} {Ra : List D → Prop} (ha : EvA G p b b1 t ds Ra) (h : ∀ es, Ra es → es.length = n ∧ Cas F es c R) (hb : c + b' ≤ b1) : EvS G p b b' (tCl n 0 (SpD G.K F) (fun vs _ => vs) E t tNil) ds R :=
  (evs_cl (F := F) (gD := fun es _ => es) (fs := []) ha ea_nil (fun _ _ _ _ _ r _ => r) rfl fun es q => by
    obtain ⟨h1, h2⟩ := h es q
    exact ⟨h1, h2.n, h2.dom, Nat.le_trans (Nat.add_le_add_right h2.cost _) hb, fun C x z => absurd z (h2.exn C x)⟩).imp fun d ⟨es, q1, q2⟩ => (h es q1).2.res d q2
/-- arguments of which the last is not known for certain -/
theorem eas_one {G : Gx} {p : Bool} {b b1 : Nat} {te : TE} {ds : List Sd} {R : D → Prop} (h : EvS G p b b1 te ds R) : EvA G p b b1 (tCons te tNil) ds (fun es => ∃ z, es = [z] ∧ R z) := EvA.imp (eas_cons (R2 := fun _ r => r = []) h fun _ _ => ea_nil) fun es ⟨z, r, e, q1, q2⟩ => ⟨z, by rw [e, q2], q1⟩
theorem eas_det {G : Gx} {p : Bool} {b b1 b2 : Nat} {te : TE} {t : TA} {ds : List Sd} {x : D} {R : List D → Prop} (h : EvD G p b b1 te ds x) (h2 : EvA G p b1 b2 t ds R) : EvA G p b b2 (tCons te t) ds (fun es => ∃ r, es = x :: r ∧ R r) := EvA.imp (eas_cons (R2 := fun _ r => R r) h fun _ _ => h2) fun es ⟨z, r, e, q1, q2⟩ => ⟨r, by rw [e, q1], q2⟩
end Sh
namespace Sh
open PySem PySem.Spec PySem.Calls PyProof.Rows L2
/-- what holds behind a statement, said anew -/
theorem w_mid {G : Gx} {b : Nat} {t : TS} {ds : List Sd} {E : DE} (I : List Sd → Nat → Prop) (h : Wt G b t ds { E with nx := I }) (k : ∀ ds' b', I ds' b' → E.nx ds' b') : Wt G b t ds E := h.imp k (fun _ _ _ h => h) (fun _ _ h => h) (fun _ _ h => h) (fun h => h)
end Sh

/-! Sh15: t[::-1] of a tuple. -/
namespace Sh
open PySem PySem.Spec PySem.Calls PyProof.Rows L2
section
variable {prog : Program} {w : World} {A : Around} {E : Value → Shared → Prop} {s : Shared}
theorem revAdjust (n : Nat) : Builtin.Slice.sliceAdjust none none (-1) (n : Int) = ((n : Int) - 1, -1) := by
  unfold Builtin.Slice.sliceAdjust
  have h1 : ((-1 : Int) < 0) := by decide
  simp only [h1, if_true]
theorem revPlaces (n : Nat) : Builtin.Slice.slicePlaces ((n : Int) - 1) (-1) (-1) = n := by
  unfold Builtin.Slice.slicePlaces
  rw [if_neg (by decide)]
  split
  · have e : ((n : Int) - 1 - -1 - 1) / - -1 + 1 = (n : Int) := by
      rw [show -(-1 : Int) = 1 from rfl, Int.ediv_one]
      omega
    rw [e]
    exact Int.toNat_natCast n
  · have : n = 0 := by omega
    subst this
    rfl
theorem fm_congr {α β : Type} {f g : α → Option β} : ∀ {l : List α}, (∀ x ∈ l, f x = g x) → l.filterMap f = l.filterMap g
  | [], _ => rfl
  | x :: l, h => by
    rw [List.filterMap_cons, List.filterMap_cons, h x List.mem_cons_self, fm_congr fun y hy => h y (List.mem_cons_of_mem _ hy)]
theorem revPick (xs : List Value) : ((List.range xs.length).filterMap fun (m : Nat) => xs.toArray[(((xs.length : Int) - 1) + (m : Int) * (-1)).toNat]?).toArray = xs.reverse.toArray := by
  have e := PySem.W.krv_all xs.toArray
  have e1 : (List.range xs.length).map (fun k => xs.length - 1 - k) = (List.range xs.length).reverse := PySem.W.krv_range xs.length
  have e2 : (fun (m : Nat) => xs.toArray[(((xs.length : Int) - 1) + (m : Int) * (-1)).toNat]?) = fun m => if m < xs.length then xs.toArray[xs.length - 1 - m]? else xs.toArray[(((xs.length : Int) - 1) + (m : Int) * (-1)).toNat]? := by
    funext m
    by_cases h : m < xs.length
    · rw [if_pos h]
      congr 1
      omega
    · rw [if_neg h]
  congr 1
  rw [e2]
  have e3 : (List.range xs.length).filterMap (fun m => if m < xs.length then xs.toArray[xs.length - 1 - m]? else xs.toArray[(((xs.length : Int) - 1) + (m : Int) * (-1)).toNat]?) = (List.range xs.length).filterMap fun m => xs.toArray[xs.length - 1 - m]? := by
    refine fm_congr fun m hm => ?_
    rw [if_pos (List.mem_range.mp hm)]
  rw [e3]
  have e4 : (List.range xs.length).filterMap (fun m => xs.toArray[xs.length - 1 - m]?) = ((List.range xs.length).map (fun k => xs.length - 1 - k)).filterMap (xs.toArray[·]?) := by
    rw [List.filterMap_map]
    rfl
  rw [e4, e1, List.filterMap_reverse]
  rw [List.size_toArray] at e
  rw [e]
theorem getItem_tuple_rev {t sl : Addr} {items : List Value} {vl vu vs : Value} {Q : Value → Shared → Prop} (ht : IsTup s.heap t items.toArray) (hs : s.heap.IsSliceOf sl vl vu vs) (pl : IsPart vl none) (pu : IsPart vu none) (ps : IsPart vs (some (-1)))
    (h : Q (.ref s.heap.objs.size) { s with heap := s.heap.push { cls := .type "tuple", data := .seq items.reverse.toArray } })
    (hsz : items.length ≤ sizeLine) : wpAny (model prog w) A (getItem (.ref t) (.ref sl)) Q E s := by
  obtain ⟨os, hos, hcs, hds⟩ := id hs
  have hTs : s.TypeIs (.ref sl) "slice" := ⟨os, hos, hcs⟩
  unfold getItem
  try with_reducible refine wpAny_holding ?_
  first | refine wpAny_bind (wpAny_pure ?_) | skip
  refine wpAny_bind (wpAny_sequenceKey ht.typeIs (by decide) ?_)
  refine wpAny_bind (wpAny_callSpecial?_slot (name := Str.ofString "__getitem__") ht.typeIs PyProof.Rows.slot_tuple_getitem
    (wpAny_call_entry PyProof.Rows.slot_tuple_getitem ht.typeIs entry_tuple_getitem ?_ (args_tuple_getitem _ _)))
  show wpAny _ _ (Builtin.Tuple.tupleItemsOf (.ref t) >>= _) _ _ s
  refine wpAny_bind (tupleItemsOf_ ht ?_)
  refine wpAny_bind (wpAny_typeOf hTs ?_)
  rw [if_pos (by decide)]
  have app : ∀ (Q' : Int × Int × Nat → Shared → Prop), Q' ((items.length : Int) - 1, -1, items.length) s → wpAny (model prog w) A.in1 (Builtin.Slice.sliceApplied (.ref sl) (pure ((items.toArray.size : Nat) : Int))) Q' E s := fun Q' h' => by
    unfold Builtin.Slice.sliceApplied Builtin.Slice.sliceFields
    refine wpAny_bind (wpAny_bind (wpAny_field hos hds (x := vl) rfl (wpAny_bind (wpAny_field hos hds (x := vu) rfl (wpAny_bind (wpAny_field hos hds (x := vs) rfl (wpAny_pure ?_)))))))
    refine wpAny_bind (HT.slicePart_ ps ?_)
    show wpAny _ _ (if ((-1 : Int) == 0) = true then _ else _) _ _ s
    rw [if_neg (by decide)]
    refine wpAny_bind (HT.slicePart_ pl (wpAny_bind (HT.slicePart_ pu (wpAny_bind (wpAny_pure ?_)))))
    show wpAny _ _ (match Builtin.Slice.sliceAdjust none none (-1) ((items.toArray.size : Nat) : Int) with | (lo, hi) => pure (lo, (-1 : Int), Builtin.Slice.slicePlaces lo hi (-1))) _ _ s
    rw [revAdjust]
    show wpAny _ _ (pure (((items.toArray.size : Nat) : Int) - 1, (-1 : Int), Builtin.Slice.slicePlaces (((items.toArray.size : Nat) : Int) - 1) (-1) (-1))) _ _ s
    rw [revPlaces, List.size_toArray]
    exact wpAny_pure h'
  refine wpAny_bind (app _ ?_)
  have hno : ¬ ((((items.length : Int) - 1) == 0 && (-1 : Int) == 1 && items.length == items.toArray.size) = true) := by
    intro q
    rw [Bool.and_eq_true, Bool.and_eq_true] at q
    exact absurd q.1.2 (by decide)
  show wpAny _ _ (if (((items.length : Int) - 1) == 0 && (-1 : Int) == 1 && items.length == items.toArray.size) = true then _ else _) _ _ s
  rw [if_neg hno, revPick]
  have htake : sizeOk (.seq items.reverse.toArray) := by
    show items.reverse.toArray.size ≤ sizeLine
    rw [List.size_toArray, List.length_reverse]
    exact hsz
  first
    | exact wpAny_bind (m := Builtin.Tuple.tupleExact _) (wpAny_newObj_type (wpAny_pure ⟨_, rfl, wpAny_pure h⟩) htake)
    | exact wpAny_bind (m := Builtin.Tuple.tupleExact _) (wpAny_newObj_type (wpAny_bind (wpAny_pure (wpAny_pure ⟨_, rfl, wpAny_pure h⟩))) htake)
    | exact wpAny_bind (wpAny_bind (m := Builtin.Tuple.tupleExact _) (wpAny_newObj_type (wpAny_pure (wpAny_pure ⟨_, rfl, wpAny_pure h⟩)) htake))
    | exact wpAny_bind (wpAny_bind (m := Builtin.Tuple.tupleExact _) (wpAny_newObj_type (wpAny_pure ⟨_, rfl, wpAny_pure h⟩) htake))
end
/-- x[::-1], a list or a tuple -/
def tRevA (K : PySem.W.Frag) (te : TE) : TE := fun σ H Q => te σ H fun x H1 => ∃ a xs, x = .ref a ∧ ((SqT K H1 a xs ∧ ∀ p, H1 p = none → Q (.ref p) (upd H1 p (.tup xs.reverse))))
theorem g_rev {X : Cx} {K : PySem.W.Frag} (hK : X.K = K) {e : Expr} {te : TE} {k : Nat} {p1 p2 p3 pos : Pos} (he : PE X e te) : PE X (.Subscript e (.Slice none none (some (.UnaryOp .USub (.Constant (.int 1) k p1) p2)) p3) pos) (tRevA K te) := by
  subst hK
  refine ⟨fun pins s σ H Q I h => ?_⟩
  refine Subscript_ (thn (he.run pins s σ H _ I h) fun v s1 ⟨x, H1, I1, r1, q1⟩ => ?_)
  obtain ⟨a, xs, ex, hx, q⟩ := q1
  subst ex
  cases r1
  have hst : PO X (some (.UnaryOp .USub (.Constant (.int 1) k p1) p2)) (tPart (tUn (rU fun i => .int (-i)) (tC (.int 1)))) := po_some (pe_un un_neg pe_int)
  refine wpAny_Slice (thn (po_none.run pins s1 σ H1 (fun o H2 => o = none ∧ H2 = H1) I1 ⟨rfl, rfl⟩) fun vl s2 ⟨l, H2, I2, pl, el, e2⟩ => ?_)
  subst el e2
  refine thn (po_none.run pins s2 σ H2 (fun o H3 => o = none ∧ H3 = H2) I2 ⟨rfl, rfl⟩) fun vu s3 ⟨u, H3, I3, pu, eu, e3⟩ => ?_
  subst eu e3
  refine thn (hst.run pins s3 σ H3 (fun o H4 => o = some (-1) ∧ H4 = H3) I3 ⟨1, rfl, -1, rfl, rfl, rfl⟩) fun vs s4 ⟨o, H4, I4, ps, eo, e4⟩ => ?_
  subst eo e4
  have I5 : Inv X pins σ H4 { s4 with heap := s4.heap.push { cls := .type "slice", data := .fields #[vl, vu, vs] } } := I4.kept (t' := s4.toks) fun b ob q => Heap.get?_push_of_some _ q
  obtain ⟨its, r, ht, hz⟩ := I5.tuple hx
  have hlen := r.length
  show wpAny (model X.prog X.w) X.A (subscriptTail e (.Slice none none (some (.UnaryOp .USub (.Constant (.int 1) k p1) p2)) p3) (.ref a) (.ref s4.heap.objs.size)) (EP X pins σ Q) X.xe { s4 with heap := s4.heap.push { cls := .type "slice", data := .fields #[vl, vu, vs] } }
  refine tail_any (ops := [.ref a, .ref s4.heap.objs.size]) ht.typeIs (PyProof.Rows.slot_tuple_getitem.lookup) ?_ (by with_unfolding_all rfl)
  refine getItem_tuple_rev ht (Heap.IsSliceOf.new _ vl vu vs) pl pu ps ?_ (by omega)
  refine ⟨.ref _, _, I5.laid (t' := s4.toks) (o := .tup xs.reverse) (fun b ob q => Heap.get?_push_of_some _ q) (Nat.le_refl _) ?_, rfl, q _ (I5.hok.fresh (Nat.le_refl _))⟩
  exact ⟨by rw [List.length_reverse]; exact hz, _, r.reverse, IsTup.new _ _⟩
theorem RpA.reverse {K : PySem.W.Frag} {H : Hp} : ∀ {vs : List V} {ds : List D}, RpA K H vs ds → RpA K H vs.reverse ds.reverse
  | _, _, .nil => .nil
  | _, _, .cons p q => by
    rw [List.reverse_cons, List.reverse_cons]
    exact (RpA.reverse q).append (.cons p .nil)
theorem ev_rev {G : Gx} {p : Bool} {b b' : Nat} {te : TE} {ds : List Sd} {xs : List D} (h : EvD G p b b' te ds (.tup xs)) : EvD G p b b' (tRevA G.K te) ds (.tup xs.reverse) := fun gs M H σ S Q k =>
  h gs M H σ S _ fun v d H' r e l rp => by
    subst r
    cases rp with
    | tup hs ha => exact ⟨_, _, rfl, sqt_unm hs, fun q hq => k _ _ _ rfl (e.trans (Ext.new hq)) (l.upd fun _ z => nomatch z) (new_tup ((S.step e l).mm p) hq (RpA.reverse ha))⟩
end Sh

/-! Sh16: defs with keyword-only defaults; constants that are tuples. -/
namespace Sh
open PySem PySem.Spec PySem.Calls PyProof.Rows L2
section
variable {K : PySem.W.Frag} {x qual : Str} {params : Arguments} {body : List Stmt} {scope : Scope} {kws : List (Str × V)} {f : Addr} {fd : FuncData} {ps : List Str}
/-- f(e, .., k = v): every parameter is written -/
theorem Kb.kw (F : FunD K x qual params body scope [] kws f fd) (n : Nat) (ks : List Str)
    (h : ∀ (kV doc pm : Value) (an : Option Addr) (cdv ct : Value) (us ws : List Value), us.length = n → ws.length = ks.length → bindArgs (PySem.W.fnOf x qual params body scope .none kV doc pm an cdv ct) ⟨us, ks.zip ws⟩ = pure (ps.zip (us ++ ws))) : Kb K fd ps n ks (fun vs zs => vs ++ zs) := by
  obtain ⟨oc, od, dV, kV, doc, pm, an, cdv, ct, osl, rfl, lk, hcd, hD, hK⟩ := F.ex
  rcases hD with ⟨_, rfl⟩ | ⟨e, _⟩
  · exact ⟨fun s us ws vs zs X r rz l1 l2 => ⟨us ++ ws, r.append rz, .of_eq (h kV doc pm an cdv ct us ws (by rw [← r.length, l1]) (by rw [← rz.length, l2]))⟩⟩
  · exact absurd rfl e
/-- f(e, ..): the keyword-only ones lack -/
theorem Kb.dflt (F : FunD K x qual params body scope [] kws f fd) (n : Nat) (hk : kws ≠ []) (hn : n + kws.length = ps.length)
    (h : ∀ (D : Addr) (doc pm : Value) (an : Option Addr) (cdv ct : Value) (us ks : List Value), us.length = n → ks.length = kws.length →
      KwChain D ((kws.map (·.1)).zip ks) (bindArgs (PySem.W.fnOf x qual params body scope .none (.ref D) doc pm an cdv ct) ⟨us, []⟩) (ps.zip (us ++ ks))) : Kb K fd ps n [] (fun vs _ => vs ++ kws.map (·.2)) := by
  obtain ⟨ds, r1, b⟩ := F.binds0 n hk hn h
  refine ⟨fun s us ws vs zs X r rz l1 l2 => ?_⟩
  cases zs with
  | cons _ _ => cases l2
  | nil =>
    cases rz
    refine ⟨us ++ ds, r.append r1, b s us X ?_⟩
    rw [List.length_append, ← r.length, ← r1.length, List.length_map, l1, hn]
/-- what stands behind the top of such a def -/
theorem fund_mk {oc kV doc pm cdv ct : Value} {od an : Option Addr} {osl : Array (Option Value)} {D : Addr} (l : K.lookup f = some ⟨oc, od, .func (PySem.W.fnOf x qual params body scope .none (.ref D) doc pm an cdv ct), osl⟩) (c : PySem.W.codeIn K cdv qual = true) (kp : PySem.W.keepIn K (.ref f) = true)
    (h : ∀ q ∈ kws, ∃ u, PySem.W.nsIn K D q.1 = some (some u) ∧ RelV q.2 u) : FunD K x qual params body scope [] kws f (PySem.W.fnOf x qual params body scope .none (.ref D) doc pm an cdv ct) :=
  ⟨⟨oc, od, .none, .ref D, doc, pm, an, cdv, ct, osl, rfl, l, c, .inl ⟨rfl, rfl⟩, .inr ⟨D, rfl, h⟩⟩, kp⟩
/-- a tuple of numbers that stands in the written part -/
theorem ktup_ints {a : Addr} {dd : Option Addr} {its : Array Value} {n : Nat} {sl : Array (Option Value)} {ns : List Int} (l : K.lookup a = some ⟨.type "tuple", dd, .seq its n, sl⟩) (hz : its.size ≤ 100000) (hi : IntsAre its.toList ns) (H : Hp) : Rp K H (.ref a) (.tup (ns.map D.int)) := by
  have rv : ∀ {vs : List Value} {ns : List Int}, IntsAre vs ns → Vals (ns.map V.int) vs := fun h => vals_ints h
  have ra : ∀ ns : List Int, RpA K H (ns.map V.int) (ns.map D.int) := fun ns => by
    induction ns with
    | nil => exact .nil
    | cons n ns ih => exact .cons (.int n) ih
  exact .tup (.inr ⟨_, its, n, l, rfl, rfl, Nat.le_trans hz (by decide), rv hi⟩) (ra ns)
end
section
variable {G : Gx} {p : Bool} {b b' b1 b2 c : Nat} {t tk : TA} {ds : List Sd} {F : Fd} {n m : Nat} {E : L2.St → XK} {es fs : List D} {z : D} {R : D → Prop}
/-- f(e, .., k = v) -/
theorem ev_calK (ha : EaD G p b b1 t ds es) (hk : EaD G p b1 b2 tk ds fs) (h : Cal F (es ++ fs) z) (hn : es.length = n) (hm : fs.length = m) : EvD G p b b2 (tCl n m (SpD G.K F) (fun vs zs => vs ++ zs) E t tk) ds z :=
  (evs_cl (F := F) (gD := fun es fs => es ++ fs) ha hk (fun _ _ _ _ _ r q => r.append q) hm fun es' e => by
    subst e
    exact ⟨hn, h.n, h.dom, by rw [h.cost, Nat.zero_add]; exact Nat.le_refl _, fun C x q => absurd q (h.exn C x)⟩).imp fun d ⟨es', e, q⟩ => by
    subst e
    exact h.res d q
/-- f(e, ..), the rest by default -/
theorem ev_calD {vz : List V} {dz : List D} (hz : ∀ H : Hp, RpA G.K H vz dz) (ha : EaD G p b b1 t ds es) (h : Cal F (es ++ dz) z) (hn : es.length = n) : EvD G p b b1 (tCl n 0 (SpD G.K F) (fun vs _ => vs ++ vz) E t tNil) ds z :=
  (evs_cl (F := F) (gD := fun es _ => es ++ dz) (fs := []) ha ea_nil (fun H _ _ _ _ r _ => r.append (hz H)) rfl fun es' e => by
    subst e
    exact ⟨hn, h.n, h.dom, by rw [h.cost, Nat.zero_add]; exact Nat.le_refl _, fun C x q => absurd q (h.exn C x)⟩).imp fun d ⟨es', e, q⟩ => by
    subst e
    exact h.res d q
end
end Sh
namespace Sh
open PySem PySem.Spec PySem.Calls PyProof.Rows L2
theorem g_lst {X : Cx} {K : PySem.W.Frag} (hK : X.K = K) {es : List Expr} {k : Nat} {t : TGs} {n : Nat} {pos : Pos} (hc : X.calm = true) (h : PGs X es t)
    (hn : (assignEach es X.env).length = n := by rfl) (hst : (assignEach es X.env).findIdx? (·.1) = none := by rfl) : PG X (.Tuple es k pos) (gLst K n t) := by subst hK; exact pg_lst hc h hn hst
/-- a list's items -/
theorem tg_lst {K : PySem.W.Frag} {vs : List Nat} {t : TGs} {es : List D} {ds ds1 : List Sd} {n : Nat} (h : TgsR K vs t es ds ds1) (hl : es.length = n := by rfl) : TgR K vs (gLst K n t) (.lst es) ds ds1 := fun H0 M0 gs M b H σ v S r Q k => by
  cases r with
  | lst hs ha => exact ⟨_, _, rfl, SqL.of (msk_of hs).2, by rw [ha.length, hl], h H0 M0 gs M b H σ _ S ha Q k⟩
end Sh

/-! Sh17: comprehensions with two fors. -/
namespace Sh
open PySem PySem.Spec PySem.Calls PyProof.Rows L2
/-- a masked object that no slot owns is changed -/
theorem Stt.updM {K : PySem.W.Frag} {H0 H : Hp} {M0 M : Addr → Prop} {b : Nat} {σ : List (Option V)} {ds : List Sd} {gs : List (V × D)} (S : Stt K H0 M0 gs M b H σ ds) {D : Addr} {o : HO} (m : M D) (n0 : ¬ M0 D) (ho : ∀ φ, o ≠ .ext φ)
    (hno : ∀ (j : Nat) (s : Sd), σ[j]? = some (some (.ref D)) → ds[j]? = some s → isOwn s = false) : Stt K H0 M0 gs M b (upd H D o) σ ds := by
  have hm : msk M (upd H D o) = msk M H := msk_upd m
  refine ⟨S.ext.mut (S.new D m n0), S.m0, S.new, fun a h => ?_, S.lim.upd ho, S.len, fun j s d h1 h2 => ?_, S.inj, S.ownNew, fun q hq => by rw [hm]; exact S.gh q hq⟩
  · by_cases e : a = D
    · rw [e, upd_same]; exact fun z => nomatch z
    · rw [upd_ne e]; exact S.liv a h
  · have q := S.sl j s d h1 h2
    have na : ∀ a, s = some (.ref a) → isOwn d = true → a ≠ D := fun a e ow z => by
      subst z
      rw [e] at h1
      rw [hno j d h1 h2] at ow
      cases ow
    cases d with
    | un => trivial
    | dat d => obtain ⟨v, g1, g2⟩ := q; exact ⟨v, g1, by rw [hm]; exact g2⟩
    | own ys => obtain ⟨a, ws, g1, g2, g3, g4⟩ := q; exact ⟨a, ws, g1, g2, by rw [upd_ne (na a g1 rfl)]; exact g3, by rw [hm]; exact g4⟩
    | owd ys => obtain ⟨a, ws, g1, g2, g3, g4⟩ := q; exact ⟨a, ws, g1, g2, by rw [upd_ne (na a g1 rfl)]; exact g3, by rw [hm]; exact g4⟩
    | par a ys => obtain ⟨ws, g1, g2, g3, g4⟩ := q; exact ⟨ws, g1, g2, by rw [upd_ne (na a g1 rfl)]; exact g3, by rw [hm]; exact g4⟩
def flat2 (m : Nat → Nat) (kp : Nat → Nat → Bool) (f : Nat → Nat → D) (i : Nat) : List D := (List.range i).flatMap fun i => ((List.range (m i)).filter (kp i)).map (f i)
theorem flat2_step (m : Nat → Nat) (kp : Nat → Nat → Bool) (f : Nat → Nat → D) (i : Nat) : flat2 m kp f (i + 1) = flat2 m kp f i ++ ((List.range (m i)).filter (kp i)).map (f i) := by
  unfold flat2
  rw [List.range_succ, List.flatMap_append]
  simp
theorem eo_lc2 {G : Gx} {b b' : Nat} {wi wi1 : TI} {g g1 : TG} {tt1 : TT} {te : TE} {vs vs1 : List Nat} {ds : List Sd} {n : Nat} {it : Nat → D} (m : Nat → Nat) (it1 : Nat → Nat → D) (kp : Nat → Nat → Bool) (f : Nat → Nat → D) (hi : EvI G b b' wi ds n it)
    (hlen : ∀ i j, i < n → j ≤ m i → (flat2 m kp f i ++ ((List.range j).filter (kp i)).map (f i)).length ≤ 100000)
    (hs : ∀ i, i < n → ∃ ds'', TgR G.K vs g (it i) (wipeD ds vs) ds'' ∧ (∀ s ∈ ds'', isOwn s = false) ∧ (∀ b0, EvI G b0 b0 wi1 ds'' (m i) (it1 i)) ∧ ∀ j, j < m i → ∃ ds3, TgR G.K vs1 g1 (it1 i j) (wipeD ds'' vs1) ds3 ∧ ∀ b0, EtD G b0 b0 tt1 ds3 (kp i j) ∧ (kp i j = true → EvD G true b0 b0 te ds3 (f i j))) :
    EoD G b b' (tLc2 wi g tYes wi1 g1 tt1 te vs vs1) ds (flat2 m kp f n) := fun gs M H σ S Q k =>
  hi gs M H σ S _ fun J gs' H1 e l hg ok => fun D hD => by
    have S1 : Stt G.K G.H0 G.M0 (gs' ++ gs) M b' H1 σ ds := (S.step e l).ghosts hg
    have nMD : ¬ M D := fun z => S1.liv D z hD
    have ww : ∀ (σ : List (Option V)) (vs : List Nat), L2.wipe (L2.wipe σ vs) vs = L2.wipe σ vs := fun σ vs => by
      have main : ∀ ws : List Nat, (∀ v ∈ ws, v ∈ vs) → L2.wipe (L2.wipe σ ws) vs = L2.wipe σ vs := fun ws => by
        induction ws with
        | nil => intro _; rfl
        | cons v ws ih =>
          intro hv
          show L2.wipe ((L2.wipe σ ws).set v none) vs = L2.wipe σ vs
          rw [wipe_in _ _ _ _ (hv v List.mem_cons_self), ih fun u hu => hv u (List.mem_cons_of_mem _ hu)]
      exact main vs fun _ h => h
    refine ⟨fun i q H => q = n - i ∧ i ≤ n ∧ ∃ acc, Ext H1 H ∧ Lim b' H ∧ H D = some (.lst acc) ∧ RpA G.K (msk (fun a => M a ∨ a = D) H) acc (flat2 m kp f i), ⟨n, by omega, Nat.zero_le _, [], Ext.new hD, S1.lim.upd (fun _ z => nomatch z), upd_same, .nil⟩, ?_⟩
    rintro i q H2 ⟨rfl, hin, acc, e2, l2, hacc, racc⟩
    have S2 : Stt G.K G.H0 G.M0 (gs' ++ gs) (fun a => M a ∨ a = D) b' H2 σ ds := S1.grow hD e2 l2 (by rw [hacc]; exact fun z => nomatch z)
    by_cases hlt : i < n
    · refine .inr ⟨ok.go i _ H2 S2.gh' hlt, fun H => ∃ acc, Ext H1 H ∧ Lim b' H ∧ H D = some (.lst acc) ∧ RpA G.K (msk (fun a => M a ∨ a = D) H) acc (flat2 m kp f (i + 1)), fun H' z => ⟨n - (i + 1), by omega, rfl, hlt, z⟩, fun x H3 y => ?_⟩
      obtain ⟨x1, x2, x3⟩ := ok.yld i _ H2 S2.gh' hlt x H3 y
      obtain ⟨ds'', t1, hno, hi1, t2⟩ := hs i hlt
      have S3 := (S2.step x1 (x2 _ S2.lim)).wipe vs
      refine t1 _ _ _ _ _ H3 _ x S3 x3 _ fun σ4 S4 ew => ⟨by rw [ew]; exact ww σ vs, ?_⟩
      show wi1 σ4 H3 _
      refine hi1 b' _ _ H3 σ4 S4 _ fun J1 gs1 H4 e4 l4 hg1 ok1 => ?_
      have S5 : Stt G.K G.H0 G.M0 (gs1 ++ (gs' ++ gs)) (fun a => M a ∨ a = D) b' H4 σ4 ds'' := (S4.step e4 l4).ghosts hg1
      have e14 : Ext H1 H4 := (e2.trans x1).trans e4
      have hacc4 : H4 D = some (.lst acc) := e4.keep _ _ (x1.keep _ _ hacc fun _ z => nomatch z) fun _ z => nomatch z
      have racc4 := (racc.mono (msk_mono x1.toKp)).mono (msk_mono e4.toKp)
      have hnoD : ∀ (j : Nat) (s : Sd), σ4[j]? = some (some (.ref D)) → ds''[j]? = some s → isOwn s = false := fun j s _ h2 => hno s (List.mem_of_getElem? h2)
      refine ⟨fun j q H => q = m i - j ∧ j ≤ m i ∧ ∃ acc, Stt G.K G.H0 G.M0 (gs1 ++ (gs' ++ gs)) (fun a => M a ∨ a = D) b' H σ4 ds'' ∧ Ext H1 H ∧ H D = some (.lst acc) ∧ RpA G.K (msk (fun a => M a ∨ a = D) H) acc (flat2 m kp f i ++ ((List.range j).filter (kp i)).map (f i)), ⟨m i, by omega, Nat.zero_le _, acc, S5, e14, hacc4, by simpa using racc4⟩, ?_⟩
      rintro j q H5 ⟨rfl, hjm, acc5, S6, e5, hacc5, racc5⟩
      by_cases hj : j < m i
      · refine .inr ⟨ok1.go j _ H5 S6.gh' hj, fun H => ∃ acc, Stt G.K G.H0 G.M0 (gs1 ++ (gs' ++ gs)) (fun a => M a ∨ a = D) b' H σ4 ds'' ∧ Ext H1 H ∧ H D = some (.lst acc) ∧ RpA G.K (msk (fun a => M a ∨ a = D) H) acc (flat2 m kp f i ++ ((List.range (j + 1)).filter (kp i)).map (f i)), fun H' z => ⟨m i - (j + 1), by omega, rfl, hj, z⟩, fun x' H6 y' => ?_⟩
        obtain ⟨z1, z2, z3⟩ := ok1.yld j _ H5 S6.gh' hj x' H6 y'
        obtain ⟨ds3, u1, u2⟩ := t2 j hj
        have S7 := (S6.step z1 (z2 _ S6.lim)).wipe vs1
        refine u1 _ _ _ _ _ H6 _ x' S7 z3 _ fun σ8 S8 ew8 => ⟨by rw [ew8]; exact ww σ4 vs1, ?_⟩
        obtain ⟨q1, q2⟩ := u2 b'
        refine q1 _ _ H6 σ8 S8 _ fun kp' H7 r7 e7 l7 => ?_
        subst r7
        have er : (List.range (j + 1)).filter (kp i) = (List.range j).filter (kp i) ++ if kp i j = true then [j] else [] := by
          rw [List.range_succ, List.filter_append]
          cases hkp : kp i j <;> simp [hkp]
        have e57 := z1.trans e7
        have hacc7 : H7 D = some (.lst acc5) := e57.keep _ _ hacc5 fun _ z => nomatch z
        have racc7 := racc5.mono (msk_mono e57.toKp)
        cases hkp : kp i j with
        | false =>
          show ∃ acc, _
          refine ⟨acc5, S6.step e57 l7, e5.trans e57, hacc7, ?_⟩
          rw [er, hkp]
          simpa using racc7
        | true =>
          show te σ8 H7 _
          refine q2 hkp _ _ H7 σ8 (S8.step e7 l7) _ fun v d H8 r8 e8 l8 rp8 => ?_
          subst r8
          have e58 := e57.trans e8
          have hacc8 : H8 D = some (.lst acc5) := e8.keep _ _ hacc7 fun _ z => nomatch z
          have len : acc5.length ≤ 100000 := by
            rw [racc5.length]
            exact hlen i j hlt hjm
          have S9 := (S6.step e58 l8).updM (D := D) (o := .lst (acc5 ++ [v])) (.inr rfl) (fun z => nMD (S1.m0 D z)) (fun _ z => nomatch z) hnoD
          refine ⟨acc5, hacc8, Nat.lt_of_le_of_lt len (by decide), acc5 ++ [v], S9, (e5.trans e58).mut hD, upd_same, ?_⟩
          rw [er, hkp, msk_upd (.inr rfl), if_pos rfl, List.map_append, ← List.append_assoc]
          exact (racc7.mono (msk_mono e8.toKp)).append (.cons rp8 .nil)
      · have en : j = m i := by omega
        subst en
        refine .inl ⟨ok1.stop _ H5 S6.gh', acc5, e5, S6.lim, hacc5, ?_⟩
        rw [flat2_step]
        exact racc5
    · have en : i = n := by omega
      subst en
      exact .inl ⟨ok.stop _ H2 S2.gh', k D acc _ H2 rfl (e.trans e2) l2 (e.free hD) hacc racc⟩
end Sh

/-! Sh18: stores to slices, extend. -/
namespace Sh
open PySem PySem.Spec PySem.Calls PyProof.Rows L2
/-- o[lo:hi] = v -/
def gSubS (to : TE) (tl th : TO) : TG := fun v σ H Q => to σ H fun x H1 => tl σ H1 fun lo H2 => th σ H2 fun hi H3 => ∃ (l b : Addr) (xs ys : List V) (a c : Int), x = .ref l ∧ v = .ref b ∧ lo = some a ∧ hi = some c ∧ H3 l = some (.lst xs) ∧ H3 b = some (.lst ys) ∧ l ≠ b ∧
  0 ≤ a ∧ a ≤ c ∧ c ≤ xs.length ∧ xs.length + ys.length ≤ sizeLine ∧ Q σ (upd H3 l (.lst (xs.take a.toNat ++ ys ++ xs.drop c.toNat)))
theorem part_int {v : Value} {a : Int} (h : IsPart v (some a)) : RelV (.int a) v := by
  cases h with
  | int i t => exact ⟨t, rfl⟩
section
variable {X : Cx} {pos p2 : Pos}
theorem pg_subS {o : Expr} {lo hi : Option Expr} {to : TE} {tl th : TO} (ho : PE X o to) (hl : PO X lo tl) (hu : PO X hi th)
    (ha : ∀ v, assign (.Subscript o (.Slice lo hi none p2) pos) X.env v = (do
      let ov ← holding [v] (eval o X.env)
      let iv ← holding [v, ov] (eval (.Slice lo hi none p2) X.env)
      standAt pos
      holding [v, ov, iv] (setItem ov iv v)
      release [iv, v, ov] []) := by intro _; rfl) : PG X (.Subscript o (.Slice lo hi none p2) pos) (gSubS to tl th) := by
  refine ⟨fun pins s σ H v u Q I r h => ?_⟩
  rw [ha]
  refine wpAny_bind (wpAny_holding (thn (ho.run pins s σ H _ I h) fun ov s1 ⟨x, H1, I1, r1, q1⟩ => ?_))
  refine wpAny_bind (wpAny_holding (wpAny_Slice (thn (hl.run pins s1 σ H1 _ I1 q1) fun vl s2 ⟨l, H2, I2, pl, q2⟩ => thn (hu.run pins s2 σ H2 _ I2 q2) fun vu s3 ⟨w, H3, I3, pu, q3⟩ => ?_)))
  rw [evalPart_none]
  refine wpAny_pure ?_
  have I4 : Inv X pins σ H3 { s3 with heap := s3.heap.push { cls := .type "slice", data := .fields #[vl, vu, .none] } } := I3.kept (t' := s3.toks) fun b ob q => Heap.get?_push_of_some _ q
  obtain ⟨l0, b0, xs, ys, a, c, e1, e2, e3, e4, hH, hB, hne, h0, hac, hc, hz, q⟩ := q3
  subst e1 e2 e3 e4
  cases r1
  cases r
  refine wpAny_bind (wpAny_standAt (wpAny_bind (wpAny_holding ?_)))
  exact set_slice I4 hH hB hne (Heap.IsSliceOf.new ..) (part_int pl) (part_int pu) h0 hac hc hz fun s' I' => wpAny_release ⟨σ, _, I', q⟩
end
theorem g_extend {X : Cx} : MtR X "list.extend" rExtend := mt_extend
section
variable {G : Gx} {b b' b1 b2 b3 : Nat} {te : TE} {tl th : TO} {ds : List Sd} {E : DE} {i : Nat} {xs ys : List D} {a c : Int}
/-- xs[a:c] = ys, xs our own -/
theorem w_setSl (hi : ds[i]? = some (.own xs)) (h : EvD G true b b1 te ds (.lst ys)) (hl : EpD G b1 b2 tl ds (some a)) (hh : EpD G b2 b3 th ds (some c)) (h0 : 0 ≤ a) (hac : a ≤ c) (hc : c ≤ xs.length) (hz : xs.length + ys.length ≤ 100000)
    (k : E.nx (ds.set i (.own (xs.take a.toNat ++ ys ++ xs.drop c.toNat))) b3) : Wt G b (tAsg te (gSubS (tVar i) tl th)) ds E := fun gs M H σ S Dn w => by
  refine h gs M H σ S _ fun v d' H1 r e1 l1 rp => ?_
  subst r
  have S1 := S.step e1 l1
  obtain ⟨a0, vs, hσ, m, ha, rr, n0⟩ := S1.ownL hi
  refine ⟨.ref a0, hσ, ?_⟩
  refine hl gs M H1 σ S1 _ fun H2 e2 l2 => hh gs M H2 σ (S1.step e2 l2) _ fun H3 e3 l3 => ?_
  have S3 := (S1.step e2 l2).step e3 l3
  have ha3 : H3 a0 = some (.lst vs) := e3.keep _ _ (e2.keep _ _ ha fun _ z => nomatch z) fun _ z => nomatch z
  have rp3 := (rp.mono (msk_mono e2.toKp)).mono (msk_mono e3.toKp)
  have rr3 := (rr.mono (msk_mono e2.toKp)).mono (msk_mono e3.toKp)
  cases rp3 with
  | @lst b0 ws _ hb rb =>
    obtain ⟨mb, hb2⟩ := msk_of hb
    have e5 := rr3.length
    have e6 := rb.length
    refine ⟨a0, b0, vs, ws, a, c, rfl, rfl, rfl, rfl, ha3, hb2, fun z => mb (show M b0 by rw [← z]; exact m), h0, hac, by rw [e5]; exact hc, by rw [e5, e6]; exact Nat.le_trans hz (by decide), ?_⟩
    exact w.nx M b3 _ σ _ (S3.chg hi hσ (((RpA.take _ rr3).append rb).append (RpA.drop _ rr3))) k
/-- xs.extend(e), xs our own -/
theorem ws_ext {R : List D → Prop} (hi : ds[i]? = some (.own xs)) (h : EvS G true b b' te ds (fun d => ∃ ys, d = .lst ys ∧ R ys)) (hl : ∀ ys, R ys → xs.length + ys.length ≤ 100000) (k : ∀ ys, R ys → E.nx (ds.set i (.own (xs ++ ys))) b') :
    Wt G b (tDrop (tBM G.K "list" rExtend (tVar i) (tCons te tNil))) ds E := fun gs M H σ S Dn w => by
  obtain ⟨a, vs, hσ, m, ha, r, n0⟩ := S.ownL hi
  refine ⟨.ref a, hσ, .inl ⟨rfl, vs, SqL.of ha⟩, ?_⟩
  refine h gs M H σ S _ fun v d H' rd e l rp => ?_
  obtain ⟨ys, rfl, ry⟩ := rd
  have S' := S.step e l
  have ha' : H' a = some (.lst vs) := e.keep _ _ ha fun _ z => nomatch z
  cases rp with
  | @lst b0 ws _ hb rb =>
    obtain ⟨mb, hb2⟩ := msk_of hb
    refine ⟨a, b0, vs, ws, rfl, rfl, ha', hb2, by rw [r.length, rb.length]; exact Nat.le_trans (hl ys ry) (by decide), ?_⟩
    exact w.nx M b' _ σ _ (S'.chg hi hσ ((r.mono (msk_mono e.toKp)).append rb)) (k ys ry)
theorem w_ext (hi : ds[i]? = some (.own xs)) (h : EvD G true b b' te ds (.lst ys)) (hl : xs.length + ys.length ≤ 100000) (k : E.nx (ds.set i (.own (xs ++ ys))) b') :
    Wt G b (tDrop (tBM G.K "list" rExtend (tVar i) (tCons te tNil))) ds E := ws_ext (R := fun zs => zs = ys) hi (h.imp fun d e => ⟨ys, e, rfl⟩) (fun zs e => by rw [e]; exact hl) fun zs e => by rw [e]; exact k
end
end Sh
namespace Sh
open PySem PySem.Spec PySem.Calls PyProof.Rows L2
/-! ### is True, in -/
theorem g_isB {X : Cx} : OpR X (compareOp .Is) rIsB := op_isBl
theorem g_notB {X : Cx} : OpR X (compareOp .IsNot) rNotB := op_notBl
def rInS : R2 := fun x y H Q => ∃ i j, x = .str i ∧ y = .str j ∧ Q (.bl (!(Builtin.Str.occurrences j i 0 j.length 1).isEmpty)) H
def rNotInS : R2 := fun x y H Q => ∃ i j, x = .str i ∧ y = .str j ∧ Q (.bl (!(!(Builtin.Str.occurrences j i 0 j.length 1).isEmpty))) H
def rInK : R2 := fun x y H Q => ∃ a o, y = .ref a ∧ DGet H a x o ∧ Q (.bl o.isSome) H
def rNotInK : R2 := fun x y H Q => ∃ a o, y = .ref a ∧ DGet H a x o ∧ Q (.bl (!o.isSome)) H
theorem op_inK {X : Cx} (hu : X.A.units + 1 < cLine) : OpR X (compareOp .In) rInK := by
  intro pins s σ H x y v u Q I rx ry h
  obtain ⟨a, o, rfl, g, q⟩ := h
  cases ry
  exact d_in hu I g rx fun s' I' => ⟨.bl _, H, I', rfl, q⟩
theorem op_notInK {X : Cx} (hu : X.A.units + 1 < cLine) : OpR X (compareOp .NotIn) rNotInK := by
  intro pins s σ H x y v u Q I rx ry h
  obtain ⟨a, o, rfl, g, q⟩ := h
  cases ry
  exact d_notIn hu I g rx fun s' I' => ⟨.bl _, H, I', rfl, q⟩
def rInA (K : PySem.W.Frag) : R2 := fun x y H Q => rIn K false x y H Q ∨ rInD K x y H Q ∨ rInS x y H Q ∨ rInK x y H Q
def rNotInA (K : PySem.W.Frag) : R2 := fun x y H Q => rIn K true x y H Q ∨ rNotInD K x y H Q ∨ rNotInS x y H Q ∨ rNotInK x y H Q
theorem g_in {X : Cx} {K : PySem.W.Frag} (hK : X.K = K) {k : Nat} (hr : Room k X.A) : OpR X (compareOp .In) (rInA K) := by
  subst hK
  exact op_in_seq.or ((op_inD (by have := hr.un; show X.A.units + 65 < 9900; unfold cLine at this; omega)).or (op_in_str.or (op_inK (hu_of hr))))
theorem g_notin {X : Cx} {K : PySem.W.Frag} (hK : X.K = K) {k : Nat} (hr : Room k X.A) : OpR X (compareOp .NotIn) (rNotInA K) := by
  subst hK
  exact op_notIn_seq.or ((op_notInD (by have := hr.un; show X.A.units + 65 < 9900; unfold cLine at this; omega)).or (op_notIn_str.or (op_notInK (hu_of hr))))
section
variable {K : PySem.W.Frag} {a c : Bool} {n : Int} {ns : List Int}
theorem o_isB : Op2D K rIsB (.bl a) (.bl c) (.bl (decide (a = c))) := fun N b H v u Q hN l r1 r2 k => by
  cases r1
  cases r2
  exact ⟨a, c, rfl, rfl, k _ _ H rfl (Ext.refl H) l (.bl _)⟩
theorem o_notB : Op2D K rNotB (.bl a) (.bl c) (.bl (!decide (a = c))) := fun N b H v u Q hN l r1 r2 k => by
  cases r1
  cases r2
  exact ⟨a, c, rfl, rfl, k _ _ H rfl (Ext.refl H) l (.bl _)⟩
theorem inV_ints (n : Int) : ∀ ns : List Int, inV (.int n) (ns.map V.int) = decide (n ∈ ns)
  | [] => by simp [inV]
  | m :: ns => by
    have ih := inV_ints n ns
    unfold inV at ih ⊢
    rw [List.map_cons, List.any_cons, ih]
    have e : eqV (.int m) (.int n) = decide (n = m) := by
      show (m == n) = decide (n = m)
      by_cases h : n = m
      · rw [h]; simp
      · rw [decide_eq_false h]; simp; exact fun z => h z.symm
    rw [e]
    by_cases h : n = m
    · simp [h]
    · simp [h]
theorem flat_ints : ∀ ns : List Int, (ns.map V.int).all flatV = true
  | [] => rfl
  | m :: ns => by rw [List.map_cons, List.all_cons, flat_ints ns]; rfl
theorem o_inI : Op2D K (rInA K) (.int n) (.lst (ns.map D.int)) (.bl (decide (n ∈ ns))) := fun N b H v u Q hN l r1 r2 k => by
  cases r1
  cases r2 with
  | lst ha r =>
    have e := r.ints
    subst e
    refine .inl ⟨_, _, rfl, .inl (SqL.of (msk_of ha).2), rfl, flat_ints ns, ?_⟩
    show Q (.bl (inV _ _)) H
    rw [inV_ints]
    exact k _ _ H rfl (Ext.refl H) l (.bl _)
theorem o_notinI : Op2D K (rNotInA K) (.int n) (.lst (ns.map D.int)) (.bl (!decide (n ∈ ns))) := fun N b H v u Q hN l r1 r2 k => by
  cases r1
  cases r2 with
  | lst ha r =>
    have e := r.ints
    subst e
    refine .inl ⟨_, _, rfl, .inl (SqL.of (msk_of ha).2), rfl, flat_ints ns, ?_⟩
    show Q (.bl (!inV _ _)) H
    rw [inV_ints]
    exact k _ _ H rfl (Ext.refl H) l (.bl _)
theorem o_inIT : Op2D K (rInA K) (.int n) (.tup (ns.map D.int)) (.bl (decide (n ∈ ns))) := fun N b H v u Q hN l r1 r2 k => by
  cases r1
  cases r2 with
  | tup ha r =>
    have e := r.ints
    subst e
    refine .inl ⟨_, _, rfl, .inr (sqt_unm ha), rfl, flat_ints ns, ?_⟩
    show Q (.bl (inV _ _)) H
    rw [inV_ints]
    exact k _ _ H rfl (Ext.refl H) l (.bl _)
theorem pyA_any (d : D) : ∀ xs : List D, ((D.pyA xs).any fun z => PyData.eqv z d.py) = xs.any fun x => D.eq x d
  | [] => rfl
  | x :: xs => by simp only [D.pyA, List.any_cons, pyA_any d xs]; rfl
/-- any data -/
theorem o_inD {d : D} {xs : List D} (hd : D.shp 64 d = true) (hx : D.shp 64 (.lst xs) = true) : Op2D K (rInA K) d (.lst xs) (.bl (xs.any fun x => D.eq x d)) := fun N b H v u Q hN l r1 r2 k => by
  refine .inr (.inl ⟨d.py, D.pyA xs, (r1.mono msk_all).dp hd, (r2.mono msk_all).dp hx, shp_shaped hd, shp_shaped hx, ?_⟩)
  rw [pyA_any]
  exact k _ _ H rfl (Ext.refl H) l (.bl _)
theorem o_notinD {d : D} {xs : List D} (hd : D.shp 64 d = true) (hx : D.shp 64 (.lst xs) = true) : Op2D K (rNotInA K) d (.lst xs) (.bl (!xs.any fun x => D.eq x d)) := fun N b H v u Q hN l r1 r2 k => by
  refine .inr (.inl ⟨d.py, D.pyA xs, (r1.mono msk_all).dp hd, (r2.mono msk_all).dp hx, shp_shaped hd, shp_shaped hx, ?_⟩)
  rw [pyA_any]
  exact k _ _ H rfl (Ext.refl H) l (.bl _)
end
end Sh
namespace Sh
open PySem PySem.Spec PySem.Calls PyProof.Rows L2
section
variable {G : Gx} {p : Bool} {b b' b1 b2 b3 : Nat} {ta tb te : TE} {ds : List Sd} {xs ys : List D} {i : Int}
/-- [..] * n, + of lists, slices of lists: nothing else knows them -/
theorem eo_rep (h1 : EvD G true b b1 ta ds (.lst xs)) (h2 : EvD G true b1 b2 tb ds (.int i)) (h0 : -(2 ^ 62) ≤ i ∧ i < 2 ^ 62) (hl : xs.length * i.toNat ≤ 100000) : EoD G b b2 (tOp rMulA ta tb) ds (List.replicate i.toNat xs).flatten := fun gs M H σ S Q k =>
  h1 gs M H σ S _ fun v d H1 r e1 l1 rp => h2 gs M H1 σ (S.step e1 l1) _ fun u d2 H2 r2 e2 l2 rp2 => by
    subst r r2
    cases rp2
    have rp' := rp.mono (msk_mono e2.toKp)
    cases rp' with
    | @lst a vs _ ha a1 =>
      have rep : ∀ n : Nat, RpA G.K (msk M H2) (List.replicate n vs).flatten (List.replicate n xs).flatten := fun n => by
        induction n with
        | zero => exact .nil
        | succ n ih =>
          rw [List.replicate_succ, List.replicate_succ, List.flatten_cons, List.flatten_cons]
          exact a1.append ih
      exact .inr ⟨a, i, vs, rfl, rfl, (msk_of ha).2, by omega, by omega, by rw [a1.length]; exact Nat.le_trans hl (by decide), fun q hq => k q _ _ _ rfl ((e1.trans e2).trans (Ext.new hq)) (l2.upd fun _ z => nomatch z) ((e1.trans e2).free hq) upd_same (eo_new (H' := H2) hq (rep _))⟩
theorem eo_catL (h1 : EvD G true b b1 ta ds (.lst xs)) (h2 : EvD G true b1 b2 tb ds (.lst ys)) (hl : xs.length + ys.length ≤ 100000) : EoD G b b2 (tOp (rAddA G.K) ta tb) ds (xs ++ ys) := fun gs M H σ S Q k =>
  h1 gs M H σ S _ fun v d H1 r e1 l1 rp => h2 gs M H1 σ (S.step e1 l1) _ fun u d2 H2 r2 e2 l2 rp2 => by
    subst r r2
    have rp' := rp.mono (msk_mono e2.toKp)
    cases rp' with
    | @lst a vs _ ha a1 =>
      cases rp2 with
      | @lst c ws _ hc a2 =>
        have e5 := a1.length
        have e6 := a2.length
        exact .inr (.inr (.inl ⟨a, c, vs, ws, rfl, rfl, (msk_of ha).2, (msk_of hc).2, by rw [e5, e6]; exact Nat.le_trans hl (by decide), fun q hq => k q _ _ _ rfl ((e1.trans e2).trans (Ext.new hq)) (l2.upd fun _ z => nomatch z) ((e1.trans e2).free hq) upd_same (eo_new (H' := H2) hq (a1.append a2))⟩))
theorem eo_slL {tl th : TO} {lo hi : Option Int} (h : EvD G true b b1 te ds (.lst xs)) (hl : EpD G b1 b2 tl ds lo) (hh : EpD G b2 b3 th ds hi) : EoD G b b3 (tSl (rSlG G.K) te tl th) ds (slcD xs lo hi) := fun gs M H σ S Q k =>
  h gs M H σ S _ fun v d H1 r e1 l1 rp => hl gs M H1 σ (S.step e1 l1) _ fun H2 e2 l2 => hh gs M H2 σ ((S.step e1 l1).step e2 l2) _ fun H3 e3 l3 => by
    subst r
    have e := (e1.trans e2).trans e3
    have rp' := (rp.mono (msk_mono e2.toKp)).mono (msk_mono e3.toKp)
    cases rp' with
    | @lst a vs _ ha a1 => exact .inl ⟨_, _, rfl, SqL.of (msk_of ha).2, fun q hq => k q _ _ _ rfl (e.trans (Ext.new hq)) (l3.upd fun _ z => nomatch z) (e.free hq) upd_same (eo_new (H' := H3) hq (a1.cut lo hi))⟩
end
end Sh
namespace Sh
open PySem PySem.Spec PySem.Calls PyProof.Rows L2
section
variable {G : Gx} {b b' b1 : Nat} {tt tu : TT} {ds : List Sd} {R1 R2 R : Bool → Prop}
theorem EvT.imp {b b' : Nat} (h : EvT G b b' tt ds R1) (i : ∀ c, R1 c → R c) : EvT G b b' tt ds R := fun gs M H σ S Q k => h gs M H σ S Q fun c H' r => k c H' (i c r)
theorem EvT.less (h : EvT G b b1 tt ds R) (e : b' ≤ b1) : EvT G b b' tt ds R := fun gs M H σ S Q k => h gs M H σ S Q fun c H' r x l => k c H' r x (l.mono e)
theorem ets_and (h : EvT G b b1 tt ds R1) (h2 : R1 true → EvT G b1 b' tu ds R2) (hb : b' ≤ b1) (i1 : R1 false → R false) (i2 : ∀ c, R1 true → R2 c → R c) : EvT G b b' (tAnd tt tu) ds R := fun gs M H σ S Q k => h gs M H σ S _ fun v H' r x l => by
  cases v with
  | true => exact (by show tu σ H' Q; exact h2 r gs M H' σ (S.step x l) Q fun w H2 r2 x2 l2 => k w H2 (i2 w r r2) (x.trans x2) l2)
  | false => exact (by show Q false H'; exact k false H' (i1 r) x (l.mono hb))
theorem ets_or (h : EvT G b b1 tt ds R1) (h2 : R1 false → EvT G b1 b' tu ds R2) (hb : b' ≤ b1) (i1 : R1 true → R true) (i2 : ∀ c, R1 false → R2 c → R c) : EvT G b b' (tOr tt tu) ds R := fun gs M H σ S Q k => h gs M H σ S _ fun v H' r x l => by
  cases v with
  | false => exact (by show tu σ H' Q; exact h2 r gs M H' σ (S.step x l) Q fun w H2 r2 x2 l2 => k w H2 (i2 w r r2) (x.trans x2) l2)
  | true => exact (by show Q true H'; exact k true H' (i1 r) x (l.mono hb))
theorem ets_not (h : EvT G b b' tt ds R1) (i : ∀ c, R1 c → R (!c)) : EvT G b b' (tNot tt) ds R := fun gs M H σ S Q k => h gs M H σ S _ fun v H' r e l => k (!v) H' (i v r) e l
/-- some draw == a number -/
theorem ets_eqI {ta : TE} {n : Int} (h : EvS G false b b' ta ds (fun d => ∃ i : Int, d = .int i)) : EvT G b b' (tTest (tOp (rEqD G.K) ta (tC (.int n)))) ds (fun _ => True) :=
  ets_tst (evs_op (R := fun d => ∃ c, d = .bl c ∧ True) h (fun _ _ => ev_int) fun x y ⟨i, e⟩ e2 => by rw [e, e2]; exact Op2.to o_eqI ⟨_, rfl, trivial⟩)
end
end Sh

/-! Sh19: an empty dict, != of dicts. -/
namespace Sh
open PySem PySem.Spec PySem.Calls PyProof.Rows L2
theorem ev_dnew {G : Gx} {p : Bool} {b : Nat} {ds : List Sd} : EvD G p b b tDNewK ds (.dct []) := fun gs M H σ S Q k => fun q hq =>
  k _ _ _ rfl (Ext.new hq) (S.lim.upd fun _ z => nomatch z) (.dct (msk_new (S.mm p) hq) .nil)
def rNeX (K : PySem.W.Frag) : R2 := fun x y H Q => rNeD K x y H Q ∨ rNeDA x y H Q
theorem g_neX {X : Cx} {K : PySem.W.Frag} (hK : X.K = K) {k : Nat} (hr : Room k X.A) : OpR X (compareOp .NotEq) (rNeX K) := by
  subst hK
  exact (op_neD hr.units).or (op_ne_dictA hr.units0)
theorem o_neX {K : PySem.W.Frag} {x y : D} (hx : D.shp 64 x = true) (hy : D.shp 64 y = true) : Op2D K (rNeX K) x y (.bl (!D.eq x y)) := Op2.inl (o_ne hx hy)
theorem o_neX0 {K : PySem.W.Frag} : Op2D K (rNeX K) (.dct []) (.dct []) (.bl false) := fun N b H v u Q hN l r1 r2 k => by
  cases r1 with
  | dct ha ra =>
    cases r2 with
    | dct hb rb =>
      cases ra
      cases rb
      exact .inr ⟨_, _, [], [], rfl, rfl, (msk_of ha).2, (msk_of hb).2, rfl, (fun p hp => by cases hp), k _ _ H rfl (Ext.refl H) l (.bl _)⟩
end Sh

/-! Sh20: lists of lists that nothing else knows. -/
namespace Sh
open PySem PySem.Spec PySem.Calls PyProof.Rows L2
section
variable {K : PySem.W.Frag} {H H' : Hp} {vs ws : List V} {yss zss : List (List D)} {F F2 : List Addr}
theorem RpA.flatH : ∀ {vs : List V} {ds : List D}, RpA K H vs ds → (∀ d ∈ ds, flatD d = true) → RpA K H' vs ds
  | _, _, .nil, _ => .nil
  | _, _, .cons r rr, f => .cons (r.flat (f _ List.mem_cons_self)) (RpA.flatH rr fun d hd => f d (List.mem_cons_of_mem _ hd))
theorem RowsP.mono (e : ∀ b o, H b = some o → (∀ φ, o ≠ .ext φ) → H' b = some o) : ∀ {vs yss F}, RowsP K H vs yss F → RowsP K H' vs yss F
  | _, _, _, .nil => .nil
  | _, _, _, .cons h r f q => .cons (e _ _ h fun _ z => nomatch z) r f (RowsP.mono e q)
theorem RowsP.ext (e : Ext H H') (h : RowsP K H vs yss F) : RowsP K H' vs yss F := h.mono e.keep
theorem RowsP.app : ∀ {vs yss F}, RowsP K H vs yss F → RowsP K H ws zss F2 → RowsP K H (vs ++ ws) (yss ++ zss) (F ++ F2)
  | _, _, _, .nil, q => q
  | _, _, _, .cons h r f p, q => .cons h r f (RowsP.app p q)
theorem RowsP.len : ∀ {vs yss F}, RowsP K H vs yss F → vs.length = yss.length ∧ F.length = yss.length
  | _, _, _, .nil => ⟨rfl, rfl⟩
  | _, _, _, .cons h r f q => ⟨congrArg (· + 1) (RowsP.len q).1, congrArg (· + 1) (RowsP.len q).2⟩
theorem RowsP.upd {c : Addr} {o : HO} : ∀ {vs yss F}, RowsP K H vs yss F → c ∉ F → RowsP K (upd H c o) vs yss F
  | _, _, _, .nil, _ => .nil
  | _, _, _, .cons h r f q, n => .cons (by rw [upd_ne (fun z => n (by rw [← z]; exact List.mem_cons_self))]; exact h) r f (RowsP.upd q fun z => n (List.mem_cons_of_mem _ z))
theorem RowsP.live : ∀ {vs yss F}, RowsP K H vs yss F → ∀ c ∈ F, H c ≠ none
  | _, _, _, .nil, c, z => by cases z
  | _, _, _, .cons h r f q, c, z => by
    rcases List.mem_cons.mp z with e | z
    · rw [e, h]; exact fun z => nomatch z
    · exact RowsP.live q c z
theorem RowsP.rpa {N : Addr → Prop} : ∀ {vs yss F}, RowsP K H vs yss F → (∀ c ∈ F, ¬ N c) → RpA K (msk N H) vs (yss.map .lst)
  | _, _, _, .nil, _ => .nil
  | _, _, _, .cons h r f q, n => .cons (.lst (by rw [msk_no (n _ List.mem_cons_self)]; exact h) (RpA.flatH r f)) (RowsP.rpa q fun c hc => n c (List.mem_cons_of_mem _ hc))
theorem RowsP.at : ∀ {vs yss F} {k : Nat} {ys : List D}, RowsP K H vs yss F → yss[k]? = some ys → ∃ b ws, F[k]? = some b ∧ vs[k]? = some (.ref b) ∧ H b = some (.lst ws) ∧ RpA K (fun _ => none) ws ys ∧ ∀ y ∈ ys, flatD y = true
  | _, _, _, k, ys, .nil, h => by simp at h
  | _, _, _, 0, ys, .cons h r f q, e => by simp at e; subst e; exact ⟨_, _, rfl, rfl, h, r, f⟩
  | _, _, _, k + 1, ys, .cons h r f q, e => by
    obtain ⟨b, ws, h1, h2, h3⟩ := RowsP.at (k := k) q (by simpa using e)
    exact ⟨b, ws, by simpa using h1, by simpa using h2, h3⟩
theorem RowsP.set {b : Addr} {ws' : List V} {ys' : List D} (r' : RpA K (fun _ => none) ws' ys') (f' : ∀ y ∈ ys', flatD y = true) : ∀ {vs yss F} {k : Nat}, RowsP K H vs yss F → F.Nodup → F[k]? = some b → RowsP K (L2.upd H b (.lst ws')) vs (yss.set k ys') F
  | _, _, _, k, .nil, _, h => by simp at h
  | _, _, _, 0, .cons h r f q, nd, e => by
    simp at e; subst e
    exact .cons upd_same r' f' (q.upd (List.nodup_cons.mp nd).1)
  | _, _, _, k + 1, .cons (b := c) h r f q, nd, e => by
    have e : _ := (show _ = _ by simpa using e)
    have hm := List.mem_of_getElem? e
    refine .cons ?_ r f (RowsP.set r' f' q (List.nodup_cons.mp nd).2 e)
    show (L2.upd H b (.lst ws')) c = _
    rw [upd_ne (fun z => (List.nodup_cons.mp nd).1 (by rw [z]; exact hm))]
    exact h
end
end Sh
namespace Sh
open PySem PySem.Spec PySem.Calls PyProof.Rows L2
theorem Stt.growP {K : PySem.W.Frag} {H0 H H' : Hp} {M0 M : Addr → Prop} {b b' : Nat} {σ : List (Option V)} {ds : List Sd} {gs : List (V × D)} (S : Stt K H0 M0 gs M b H σ ds) {P : Addr → Prop} (hp : ∀ a, P a → H a = none) (e : Ext H H') (l : Lim b' H') (hl : ∀ a, P a → H' a ≠ none) :
    Stt K H0 M0 gs (fun a => M a ∨ P a) b' H' σ ds := by
  have hup : Kp (msk M H) (msk (fun a => M a ∨ P a) H') := ⟨fun a o h n => by
    obtain ⟨h1, h2⟩ := msk_of h
    have na : ¬ P a := fun z => by rw [hp a z] at h2; cases h2
    rw [msk_no fun z => z.elim h1 na]
    exact e.keep a o h2 n, fun a n h => by
    obtain ⟨h1, h2⟩ := msk_of h
    have na : ¬ P a := fun z => by rw [hp a z] at h2; unfold PurseO at h2; cases h2
    obtain ⟨m, q⟩ := e.pz a n h2
    exact ⟨m, by rw [msk_no fun z => z.elim h1 na]; exact q⟩⟩
  refine ⟨S.ext.trans e, fun a h => .inl (S.m0 a h), fun a h n => ?_, fun a h => ?_, l, S.len, fun j s d h1 h2 => ?_, S.inj, S.ownNew, fun q hq => (S.gh q hq).mono hup⟩
  · rcases h with h | h
    · exact S.new a h n
    · exact S.ext.free (hp a h)
  · rcases h with h | h
    · exact e.dom a (S.liv a h)
    · exact hl a h
  · have q := S.sl j s d h1 h2
    cases d with
    | un => trivial
    | dat d => obtain ⟨v, g1, g2⟩ := q; exact ⟨v, g1, g2.mono hup⟩
    | own ys => obtain ⟨a, ws, g1, g2, g3, g4⟩ := q; exact ⟨a, ws, g1, .inl g2, e.keep _ _ g3 (fun _ z => nomatch z), g4.mono hup⟩
    | owd ys => obtain ⟨a, ws, g1, g2, g3, g4⟩ := q; exact ⟨a, ws, g1, .inl g2, e.keep _ _ g3 (fun _ z => nomatch z), g4.mono hup⟩
    | par a ys => obtain ⟨ws, g1, g2, g3, g4⟩ := q; exact ⟨ws, g1, .inl g2, e.keep _ _ g3 (fun _ z => nomatch z), g4.mono hup⟩
theorem Stt.ownM {K : PySem.W.Frag} {H0 H : Hp} {M0 M : Addr → Prop} {b : Nat} {σ : List (Option V)} {ds : List Sd} {gs : List (V × D)} (S : Stt K H0 M0 gs M b H σ ds) {j : Nat} {c : Addr} {s : Sd} (h1 : σ[j]? = some (some (.ref c))) (h2 : ds[j]? = some s) (h3 : isOwn s = true) : M c := by
  have q := S.sl j _ _ h1 h2
  cases s with
  | own ys => obtain ⟨a', ws, e1, e2, _⟩ := q; cases e1; exact e2
  | owd ys => obtain ⟨a', ws, e1, e2, _⟩ := q; cases e1; exact e2
  | par a' ys => obtain ⟨ws, e1, e2, _⟩ := q; cases e1; exact e2
  | un => cases h3
  | dat d => cases h3
/-- the slot is not known any more -/
theorem Stt.unk {K : PySem.W.Frag} {H0 H : Hp} {M0 M : Addr → Prop} {b : Nat} {σ : List (Option V)} {ds : List Sd} {gs : List (V × D)} (S : Stt K H0 M0 gs M b H σ ds) (j : Nat) : Stt K H0 M0 gs M b H σ (ds.set j .un) := by
  by_cases hj : j < σ.length
  · have q := S.forget j σ[j]
    rw [List.set_getElem_self] at q
    exact q
  · have e : ds.set j .un = ds := List.set_eq_of_length_le (by rw [← S.len]; omega)
    rw [e]; exact S
def EvO2 (G : Gx) (b b' : Nat) (te : TE) (ds : List Sd) (R : List (List D) → Prop) : Prop := ∀ gs M H σ, G.st gs M b H σ ds → ∀ Q : VK,
  (∀ a vs yss F H', R yss → Ext H H' → Lim b' H' → H a = none → (∀ c ∈ F, H c = none) → (a :: F).Nodup → H' a = some (.lst vs) → RowsP G.K H' vs yss F → Q (.ref a) H') → te σ H Q
section
variable {G : Gx} {p : Bool} {b b' b1 b2 : Nat} {te ta tb : TE} {t tk : TA} {ds : List Sd} {R : List (List D) → Prop} {F : Fd} {n m : Nat} {E : L2.St → XK} {es fs : List D}
theorem EvO2.evs (h : EvO2 G b b' te ds R) : EvS G p b b' te ds (fun d => ∃ yss, d = .lst (yss.map .lst) ∧ R yss) := fun gs M H σ S Q k =>
  h gs M H σ S Q fun a vs yss F H' r e l hn hF nd ha rows => by
    have nM : ∀ c, H c = none → ¬ mmk p M G.M0 c := fun c hc z => S.mm p c z hc
    exact k _ _ H' ⟨yss, rfl, r⟩ e l (.lst (by rw [msk_no (nM a hn)]; exact ha) (rows.rpa fun c hc => nM c (hF c hc)))
theorem eo2_lc {wi : TI} {g : TG} {vs : List Nat} {it : Nat → D} (f : Nat → List D) (hi : EvI G b b' wi ds n it) (hn : n ≤ 100000) (hf : ∀ i y, i < n → y ∈ f i → flatD y = true)
    (hs : ∀ i, i < n → ∃ ds'', TgR G.K vs g (it i) (wipeD ds vs) ds'' ∧ ∀ b0, EoD G b0 b0 te ds'' (f i)) : EvO2 G b b' (tLc wi g tYes te vs) ds (fun yss => yss = (List.range n).map f) := fun gs M H σ S Q k =>
  hi gs M H σ S _ fun J gs' H1 e l hg ok => fun D hD => by
    have S1 : Stt G.K G.H0 G.M0 (gs' ++ gs) M b' H1 σ ds := (S.step e l).ghosts hg
    have ww : ∀ σ : List (Option V), L2.wipe (L2.wipe σ vs) vs = L2.wipe σ vs := fun σ => by
      have main : ∀ ws : List Nat, (∀ v ∈ ws, v ∈ vs) → L2.wipe (L2.wipe σ ws) vs = L2.wipe σ vs := fun ws => by
        induction ws with
        | nil => intro _; rfl
        | cons v ws ih =>
          intro hv
          show L2.wipe ((L2.wipe σ ws).set v none) vs = L2.wipe σ vs
          rw [wipe_in _ _ _ _ (hv v List.mem_cons_self), ih fun u hu => hv u (List.mem_cons_of_mem _ hu)]
      exact main vs fun _ h => h
    refine ⟨fun i m H => m = n - i ∧ i ≤ n ∧ ∃ acc F, Ext H1 H ∧ Lim b' H ∧ H D = some (.lst acc) ∧ RowsP G.K H acc ((List.range i).map f) F ∧ (∀ c ∈ F, H1 c = none) ∧ (D :: F).Nodup, ⟨n, by omega, Nat.zero_le _, [], [], Ext.new hD, S1.lim.upd (fun _ z => nomatch z), upd_same, .nil, (fun c z => by cases z), List.nodup_cons.mpr ⟨(fun z => by cases z), List.nodup_nil⟩⟩, ?_⟩
    rintro i m H2 ⟨rfl, hin, acc, F, e2, l2, hacc, racc, hF, nd⟩
    have S2 : Stt G.K G.H0 G.M0 (gs' ++ gs) (fun a => M a ∨ a = D) b' H2 σ ds := S1.grow hD e2 l2 (by rw [hacc]; exact fun z => nomatch z)
    by_cases hlt : i < n
    · refine .inr ⟨ok.go i _ H2 S2.gh' hlt, fun H => ∃ acc F, Ext H1 H ∧ Lim b' H ∧ H D = some (.lst acc) ∧ RowsP G.K H acc ((List.range (i + 1)).map f) F ∧ (∀ c ∈ F, H1 c = none) ∧ (D :: F).Nodup, fun H' z => ⟨n - (i + 1), by omega, rfl, hlt, z⟩, fun x H3 y => ?_⟩
      obtain ⟨x1, x2, x3⟩ := ok.yld i _ H2 S2.gh' hlt x H3 y
      obtain ⟨ds'', t1, t2⟩ := hs i hlt
      have S3 := (S2.step x1 (x2 _ S2.lim)).wipe vs
      refine t1 _ _ _ _ _ H3 _ x S3 x3 _ fun σ4 S4 ew => ⟨by rw [ew]; exact ww σ, ?_⟩
      show te σ4 H3 _
      refine t2 b' _ _ H3 σ4 S4 _ fun a ws xs H5 r5 e5 l5 hn5 ha5 rr5 => ?_
      subst r5
      have e25 := x1.trans e5
      have hacc3 : H3 D = some (.lst acc) := x1.keep _ _ hacc fun _ z => nomatch z
      have hacc5 : H5 D = some (.lst acc) := e5.keep _ _ hacc3 fun _ z => nomatch z
      have haD : a ≠ D := fun z => by rw [z, hacc3] at hn5; cases hn5
      have haF : a ∉ F := fun z => (racc.ext x1).live a z hn5
      have len : acc.length ≤ n := by
        rw [racc.len.1, List.length_map, List.length_range]
        exact hin
      have nD := (List.nodup_cons.mp nd).1
      have nF := (List.nodup_cons.mp nd).2
      refine ⟨acc, hacc5, Nat.lt_of_le_of_lt (Nat.le_trans len hn) (by decide), acc ++ [.ref a], F ++ [a], (e2.trans e25).mut hD, l5.upd (fun _ z => nomatch z), upd_same, ?_, fun c hc => ?_, ?_⟩
      · rw [List.range_succ, List.map_append]
        exact ((racc.ext e25).upd nD).app (.cons (by rw [upd_ne haD]; exact ha5) (RpA.flatH rr5 fun y hy => hf i y hlt hy) (fun y hy => hf i y hlt hy) .nil)
      · rcases List.mem_append.mp hc with hc | hc
        · exact hF c hc
        · rw [List.mem_singleton.mp hc]; exact e2.free (x1.free hn5)
      · refine List.nodup_cons.mpr ⟨fun z => ?_, ?_⟩
        · rcases List.mem_append.mp z with z | z
          · exact nD z
          · exact haD (List.mem_singleton.mp z).symm
        · refine List.nodup_append.mpr ⟨nF, List.nodup_cons.mpr ⟨(fun z => by cases z), List.nodup_nil⟩, fun x hx y hy z => ?_⟩
          rw [List.mem_singleton.mp hy] at z
          exact haF (by rw [← z]; exact hx)
    · have en : i = n := by omega
      subst en
      refine .inl ⟨ok.stop _ H2 S2.gh', ?_⟩
      exact k D acc _ F H2 rfl (e.trans e2) l2 (e.free hD) (fun c hc => e.free (hF c hc)) nd hacc racc
/-- f(e, .., k = v) -/
theorem eo2_calK {z : D} (ha : EaD G true b b1 t ds es) (hk : EaD G true b1 b2 tk ds fs) (h : Cal F (es ++ fs) z) (hn : es.length = n) (hm : fs.length = m) (ho : F.own = true := by rfl) (ho2 : F.own2 = true := by rfl) : EvO2 G b b2 (tCl n m (SpD G.K F) (fun vs zs => vs ++ zs) E t tk) ds (fun yss => D.lst (yss.map .lst) = z) := fun gs M H σ S Q k =>
  ha gs M H σ S _ fun vs es' H1 r1 e1 l1 rp1 => hk gs M H1 σ (S.step e1 l1) _ fun zs fs' H2 r2 e2 l2 rp2 => by
    subst r1 r2
    have S2 := (S.step e1 l1).step e2 l2
    refine ⟨by rw [rp1.length, hn], by rw [rp2.length, hm], es' ++ fs', M, b2, S2.liv, l2.mono (by rw [h.cost, Nat.zero_add]; exact Nat.le_refl _), (rp1.mono (msk_mono e2.toKp)).append rp2, h.n, h.dom, fun v d H3 rd e3 l3 rp3 o => ?_, fun C dd fsV x H3 rx => absurd rx (h.exn C x)⟩
    have o := o ho
    rw [ho2] at o
    obtain ⟨a, ws, yss, F', rfl, rfl, q1, q2, q3, q4, q5⟩ := o
    have e12 := e1.trans e2
    exact k a ws yss F' H3 (h.res _ rd) (e12.trans e3) l3 (e12.free q1) (fun c hc => e12.free (q2 c hc)) q3 q4 q5
end
/-! ### while slot i holds such a list -/
structure Ow2 (G : Gx) (M : Addr → Prop) (F : List Addr) (H : Hp) (σ : List (Option V)) (ds : List Sd) (i : Nat) (a : Addr) (vs : List V) (yss : List (List D)) : Prop where
  un : ds[i]? = some .un
  at_ : σ[i]? = some (some (V.ref a))
  all : ∀ c ∈ a :: F, M c ∧ ¬ G.M0 c
  nd : (a :: F).Nodup
  ha : H a = some (.lst vs)
  rows : RowsP G.K H vs yss F
  no : ∀ c ∈ a :: F, ∀ (j : Nat) (s : Sd), σ[j]? = some (some (V.ref c)) → ds[j]? = some s → isOwn s = false
def W2 (G : Gx) (b : Nat) (ts : TS) (i : Nat) (yss : List (List D)) (ds : List Sd) (E : DE) : Prop := ∀ gs M F H σ a vs, G.st gs M b H σ ds → Ow2 G M F H σ ds i a vs yss → ∀ Dn : Ends, Wants G gs E Dn → ts Dn σ H
section
variable {G : Gx} {p : Bool} {b b' b1 b2 : Nat} {te ta tb : TE} {tt : TT} {t u rest : TS} {ds : List Sd} {R : List (List D) → Prop} {E : DE} {i j : Nat} {yss : List (List D)} {gs : List (V × D)} {M : Addr → Prop} {F : List Addr} {H H' : Hp} {σ : List (Option V)} {a : Addr} {vs : List V}
theorem Ow2.step (O : Ow2 G M F H σ ds i a vs yss) (e : Ext H H') : Ow2 G M F H' σ ds i a vs yss := ⟨O.un, O.at_, O.all, O.nd, e.keep _ _ O.ha (fun _ z => nomatch z), O.rows.ext e, O.no⟩
theorem Ow2.thaw (O : Ow2 G M F H σ ds i a vs yss) (S : G.st gs M b H σ ds) : ∃ M', (∀ c, M' c → M c) ∧ G.st gs M' b H σ (ds.set i (.dat (.lst (yss.map .lst)))) := by
  have hs : Kp (msk M H) (msk (fun c => M c ∧ c ∉ a :: F) H) := msk_sub fun c h => h.1
  have hi : i < ds.length := (List.getElem?_eq_some_iff.mp O.un).1
  have own : ∀ (j : Nat) (e : Sd), (ds.set i (Sd.dat (.lst (yss.map .lst))))[j]? = some e → isOwn e = true → j ≠ i ∧ ds[j]? = some e := fun j e h1 h2 => by
    by_cases hj : i = j
    · subst hj
      rw [List.getElem?_set_self hi] at h1
      cases h1
      cases h2
    · rw [List.getElem?_set_ne hj] at h1
      exact ⟨Ne.symm hj, h1⟩
  have other : ∀ (j : Nat) (c : Addr) (e : Sd), σ[j]? = some (some (.ref c)) → ds[j]? = some e → isOwn e = true → c ∉ a :: F := fun j c e h1 h2 h3 z => by
    have q := O.no c z j e h1 h2
    rw [h3] at q; cases q
  refine ⟨fun c => M c ∧ c ∉ a :: F, fun c h => h.1, S.ext, fun c h => ⟨S.m0 c h, fun z => (O.all c z).2 h⟩, fun c h n => S.new c h.1 n, fun c h => S.liv c h.1, S.lim, by rw [List.length_set]; exact S.len, fun j s e h1 h2 => ?_, fun j k c e f h1 h2 h3 h4 h5 h6 => ?_, fun j c e h1 h2 h3 => ?_, fun q hq => (S.gh q hq).mono hs⟩
  · by_cases hj : i = j
    · subst hj
      rw [O.at_] at h1
      cases h1
      rw [List.getElem?_set_self hi] at h2
      cases h2
      exact ⟨_, rfl, .lst (by rw [msk_no fun z => z.2 List.mem_cons_self]; exact O.ha) (O.rows.rpa fun c hc z => z.2 (List.mem_cons_of_mem _ hc))⟩
    · rw [List.getElem?_set_ne hj] at h2
      have q := S.sl j s e h1 h2
      cases e with
      | un => trivial
      | dat d => obtain ⟨v, g1, g2⟩ := q; exact ⟨v, g1, g2.mono hs⟩
      | own zs => obtain ⟨c, ws, g1, g2, g3, g4⟩ := q; subst g1; exact ⟨c, ws, rfl, ⟨g2, other j c _ h1 h2 rfl⟩, g3, g4.mono hs⟩
      | owd zs => obtain ⟨c, ws, g1, g2, g3, g4⟩ := q; subst g1; exact ⟨c, ws, rfl, ⟨g2, other j c _ h1 h2 rfl⟩, g3, g4.mono hs⟩
      | par c zs => obtain ⟨ws, g1, g2, g3, g4⟩ := q; subst g1; exact ⟨ws, rfl, ⟨g2, other j c _ h1 h2 rfl⟩, g3, g4.mono hs⟩
  · exact S.inj j k c e f h1 h2 (own j e h3 h5).2 (own k f h4 h6).2 h5 h6
  · exact S.ownNew j c e h1 (own j e h2 h3).2 h3
theorem w2_start (h : EvO2 G b b' te ds R) (hi : i < ds.length) (k : ∀ yss, R yss → W2 G b' u i yss (ds.set i .un) E) : Wt G b (tSeq (tAsg te (gName i)) u) ds E := fun gs M H σ S Dn w =>
  h gs M H σ S _ fun a vs yss F H' r e l hn hF nd ha rows => by
    have hall : ∀ c, c ∈ a :: F → H c = none := fun c hc => by
      rcases List.mem_cons.mp hc with z | z
      · rw [z]; exact hn
      · exact hF c z
    have S2 := (S.growP (P := fun c => c ∈ a :: F) hall e l fun c hc => by
      rcases List.mem_cons.mp hc with z | z
      · rw [z, ha]; exact fun z => nomatch z
      · exact rows.live c z).forget i (some (.ref a))
    refine k yss r gs _ F H' _ a vs S2 ⟨List.getElem?_set_self hi, List.getElem?_set_self (by rw [S.len]; exact hi), fun c hc => ⟨.inr hc, fun z => S.liv c (S.m0 c z) (hall c hc)⟩, nd, ha, rows, fun c hc j s h1 h2 => ?_⟩ Dn w
    by_cases hj : i = j
    · subst hj
      rw [List.getElem?_set_self hi] at h2
      cases h2; rfl
    · rw [List.getElem?_set_ne hj] at h1 h2
      cases ho : isOwn s with
      | false => rfl
      | true => exact absurd (hall c hc) (S.liv c (S.ownM h1 h2 ho))
theorem w2_if (h : EtD G b b1 tt (ds.set i (.dat (.lst (yss.map .lst)))) false) (k : W2 G b1 rest i yss ds E) : W2 G b (tSeq (tIfS tt t tNext) rest) i yss ds E := fun gs M F H σ a vs S O Dn w => by
  obtain ⟨M', _, S'⟩ := O.thaw S
  refine h gs M' H σ S' _ fun v H' r e l => ?_
  subst r
  exact k gs M F H' σ a vs (S.step e l) (O.step e) Dn w
theorem w2_thaw (h : Wt G b t (ds.set i (.dat (.lst (yss.map .lst)))) E) : W2 G b t i yss ds E := fun gs M F H σ a vs S O Dn w => by
  obtain ⟨M', _, S'⟩ := O.thaw S
  exact h gs M' H σ S' Dn w
theorem w2_own {xs : List D} (hj : j ≠ i) (h : EoD G b b1 te (ds.set i (.dat (.lst (yss.map .lst)))) xs) (hf : ∀ x ∈ xs, flatD x = true) (k : W2 G b1 rest i yss (ds.set j (.own xs)) E) : W2 G b (tSeq (tAsg te (gName j)) rest) i yss ds E := fun gs M F H σ a vs S O Dn w => by
  obtain ⟨M', _, S'⟩ := O.thaw S
  refine h gs M' H σ S' _ fun p ws xs' H' r e l hn hp rr => ?_
  subst r
  have S2 := S.adopt (i := j) hn e l hp (RpA.flatH rr hf)
  refine k gs _ F H' _ a vs S2 ⟨by rw [List.getElem?_set_ne hj]; exact O.un, by rw [List.getElem?_set_ne hj]; exact O.at_, fun c hc => ⟨.inl (O.all c hc).1, (O.all c hc).2⟩, O.nd, e.keep _ _ O.ha (fun _ z => nomatch z), O.rows.ext e, fun c hc j' s h1 h2 => ?_⟩ Dn w
  by_cases hjj : j = j'
  · subst hjj
    have hlt : j < σ.length := by simpa using (List.getElem?_eq_some_iff.mp h1).1
    rw [List.getElem?_set_self hlt] at h1
    cases h1
    exact absurd hn (S.liv _ (O.all _ hc).1)
  · rw [List.getElem?_set_ne hjj] at h1 h2
    exact O.no c hc j' s h1 h2
theorem w2_retCat (h : EvO2 G b b' tb ds R) (hl : ∀ zss, R zss → yss.length + zss.length ≤ 100000) (k : ∀ zss, R zss → E.rt (.lst ((yss ++ zss).map .lst)) ds b') (ho : E.ro2 = true := by rfl) : W2 G b (tRet (tOp (rAddA G.K) (tVar i) tb)) i yss ds E := fun gs M F H σ a vs S O Dn w => by
  refine ⟨.ref a, O.at_, ?_⟩
  refine h gs M H σ S _ fun a2 ws zss F2 H' r e l hn hF nd ha2 rows2 => ?_
  have O' := O.step e
  have l1 := O'.rows.len.1
  have l2 := rows2.len.1
  refine .inr (.inr (.inl ⟨a, a2, vs, ws, rfl, rfl, O'.ha, ha2, by rw [l1, l2]; exact Nat.le_trans (hl zss r) (by decide), fun q hq => ?_⟩))
  have e2 : Ext H' (upd H' q (.lst (vs ++ ws))) := Ext.new hq
  have S' := (S.step e l).step e2 (l.upd fun _ z => nomatch z)
  have rw1 : RowsP G.K (upd H' q (.lst (vs ++ ws))) (vs ++ ws) (yss ++ zss) (F ++ F2) := (O'.rows.app rows2).ext e2
  have n1 : ∀ c ∈ F, ¬ G.M0 c := fun c hc => (O.all c (List.mem_cons_of_mem _ hc)).2
  have n2 : ∀ c ∈ F2, ¬ G.M0 c := fun c hc z => S.liv c (S.m0 c z) (hF c hc)
  have n3 : ∀ c ∈ F ++ F2, ¬ G.M0 c := fun c hc => (List.mem_append.mp hc).elim (n1 c) (n2 c)
  have nq : ¬ G.M0 q := fun z => e.dom q (S.liv q (S.m0 q z)) hq
  refine w.rt M b' _ σ ds (.ref q) _ S' (k zss r) (.lst (by rw [msk_no nq]; exact upd_same) (rw1.rpa n3)) fun _ => ?_
  rw [ho]
  refine ⟨q, vs ++ ws, yss ++ zss, F ++ F2, rfl, rfl, (S.ext.trans e).free hq, fun c hc => ?_, ?_, upd_same, rw1⟩
  · rcases List.mem_append.mp hc with hc | hc
    · exact S.new c (O.all c (List.mem_cons_of_mem _ hc)).1 (n1 c hc)
    · exact S.ext.free (hF c hc)
  · refine List.nodup_cons.mpr ⟨fun z => ?_, List.nodup_append.mpr ⟨(List.nodup_cons.mp O.nd).2, (List.nodup_cons.mp nd).2, fun x hx y hy z => ?_⟩⟩
    · rcases List.mem_append.mp z with z | z
      · exact O'.rows.live q z hq
      · exact rows2.live q z hq
    · rw [z] at hx
      exact O.rows.live y hx (hF y hy)
theorem w2_app0 (hl : yss.length < 100000) (k : W2 G b rest i (yss ++ [[]]) ds E) : W2 G b (tSeq (tDrop (tBM G.K "list" rAppend (tVar i) (tCons (tLst tNil) tNil))) rest) i yss ds E := fun gs M F H σ a vs S O Dn w => by
  refine ⟨.ref a, O.at_, .inl ⟨rfl, vs, SqL.of O.ha⟩, ?_⟩
  refine ⟨Nat.zero_le _, fun p hp => ?_⟩
  have hap : a ≠ p := fun z => by have q := O.ha; rw [z, hp] at q; cases q
  have hpF : p ∉ F := fun z => O.rows.live p z hp
  have ha2 : (upd H p (.lst [])) a = some (.lst vs) := by rw [upd_ne hap]; exact O.ha
  refine ⟨a, vs, .ref p, rfl, rfl, ha2, by rw [O.rows.len.1]; exact Nat.lt_of_lt_of_le hl (by decide), ?_⟩
  have S2 := S.growP (P := fun c => c = p) (fun c hc => by rw [hc]; exact hp) (Ext.new (o := .lst []) hp) (S.lim.upd fun _ z => nomatch z) (fun c hc => by rw [hc, upd_same]; exact fun z => nomatch z)
  have S3 := S2.updM (D := a) (o := .lst (vs ++ [.ref p])) (.inl (O.all a List.mem_cons_self).1) (O.all a List.mem_cons_self).2 (fun _ z => nomatch z) (O.no a List.mem_cons_self)
  have nF := (List.nodup_cons.mp O.nd).1
  refine k gs _ (F ++ [p]) _ σ a (vs ++ [.ref p]) S3 ⟨O.un, O.at_, fun c hc => ?_, ?_, upd_same, ?_, fun c hc j s h1 h2 => ?_⟩ Dn w
  · rcases List.mem_cons.mp hc with z | z
    · rw [z]; exact ⟨.inl (O.all a List.mem_cons_self).1, (O.all a List.mem_cons_self).2⟩
    · rcases List.mem_append.mp z with z | z
      · exact ⟨.inl (O.all c (List.mem_cons_of_mem _ z)).1, (O.all c (List.mem_cons_of_mem _ z)).2⟩
      · rw [List.mem_singleton.mp z]; exact ⟨.inr rfl, fun q => S.liv p (S.m0 p q) hp⟩
  · refine List.nodup_cons.mpr ⟨fun z => ?_, List.nodup_append.mpr ⟨(List.nodup_cons.mp O.nd).2, List.nodup_cons.mpr ⟨(fun z => by cases z), List.nodup_nil⟩, fun x hx y hy z => ?_⟩⟩
    · rcases List.mem_append.mp z with z | z
      · exact nF z
      · exact hap (List.mem_singleton.mp z)
    · rw [List.mem_singleton.mp hy] at z
      exact hpF (by rw [← z]; exact hx)
  · refine RowsP.upd (((O.rows.ext (Ext.new hp)).app (.cons upd_same .nil (fun y hy => by cases hy) .nil))) fun z => ?_
    rcases List.mem_append.mp z with z | z
    · exact nF z
    · exact hap (List.mem_singleton.mp z)
  · rcases List.mem_cons.mp hc with z | z
    · rw [z] at h1; exact O.no a List.mem_cons_self j s h1 h2
    · rcases List.mem_append.mp z with z | z
      · exact O.no c (List.mem_cons_of_mem _ z) j s h1 h2
      · rw [List.mem_singleton.mp z] at h1
        cases ho : isOwn s with
        | false => rfl
        | true => exact absurd hp (S.liv p (S.ownM h1 h2 ho))
theorem set_mid {α : Type} (f : α → α) (xs : List α) (t : Nat) (h : t < xs.length) : ((xs.take t).map f ++ xs.drop t).set t (f xs[t]) = (xs.take (t + 1)).map f ++ xs.drop (t + 1) := by
  rw [List.set_append_right _ _ (by simp; omega)]
  rw [List.length_map, List.length_take, Nat.min_eq_left (Nat.le_of_lt h), Nat.sub_self, List.drop_eq_getElem_cons h, List.set_cons_zero, List.take_succ, List.getElem?_eq_getElem h, List.map_append, List.append_assoc]
  rfl
theorem w2_appAll {n : Int} (hj : j ≠ i) (hjl0 : j < ds.length) (hl : ∀ ys ∈ yss, ys.length < 100000) (hf : ∀ ys ∈ yss, ∀ y ∈ ys, flatD y = true) (k : W2 G b rest i (yss.map (· ++ [.int n])) (ds.set j .un) E) :
    W2 G b (tSeq (tFor (iList G.K (tVar i)) (gName j) (tDrop (tBM G.K "list" rAppend (tVar j) (tCons (tC (.int n)) tNil)))) rest) i yss ds E := fun gs M F H σ a vs S O Dn w => by
  have un2 : (ds.set j .un)[i]? = some .un := by rw [List.getElem?_set_ne hj]; exact O.un
  have hjl : ∀ s, (ds.set j Sd.un)[j]? = some s → isOwn s = false := fun s e => by
    have hlt : j < ds.length := by simpa using (List.getElem?_eq_some_iff.mp e).1
    rw [List.getElem?_set_self hlt] at e
    cases e; rfl
  refine ⟨.ref a, O.at_, a, rfl, ⟨vs, SqL.of O.ha⟩, ?_⟩
  refine ⟨fun t m σ' H' => m = yss.length - t ∧ t ≤ yss.length ∧ G.st gs M b H' σ' (ds.set j .un) ∧ Ow2 G M F H' σ' (ds.set j .un) i a vs ((yss.take t).map (· ++ [.int n]) ++ yss.drop t), ⟨yss.length, by omega, Nat.zero_le _, S.unk j, un2, O.at_, O.all, O.nd, O.ha, by simpa using O.rows, fun c hc j' s h1 h2 => ?_⟩, ?_⟩
  · by_cases hjj : j = j'
    · subst hjj; exact hjl s h2
    · rw [List.getElem?_set_ne hjj] at h2
      exact O.no c hc j' s h1 h2
  rintro t m σ' H2 ⟨rfl, ht, S2, O2⟩
  have ly : ((yss.take t).map (· ++ [D.int n]) ++ yss.drop t).length = yss.length := by simp; omega
  have lv : vs.length = yss.length := by rw [O2.rows.len.1, ly]
  by_cases hlt : t < yss.length
  · have hvt : vs[t]? = some vs[t] := List.getElem?_eq_getElem (by omega)
    refine .inr ⟨⟨vs, vs[t], SqL.of O2.ha, hvt⟩, fun σ' H' => G.st gs M b H' σ' (ds.set j .un) ∧ Ow2 G M F H' σ' (ds.set j .un) i a vs ((yss.take (t + 1)).map (· ++ [.int n]) ++ yss.drop (t + 1)), fun σ' H' z => ⟨yss.length - (t + 1), by omega, rfl, hlt, z⟩, fun x H3 y => ?_⟩
    obtain ⟨e1, e2⟩ := y
    subst e1
    have hx := e2 _ (SqL.of O2.ha)
    have hyt : ((yss.take t).map (· ++ [D.int n]) ++ yss.drop t)[t]? = some yss[t] := by
      rw [List.getElem?_append_right (by simp; omega)]
      simp [hlt, Nat.min_eq_left (Nat.le_of_lt hlt)]
    obtain ⟨b0, ws, f1, f2, f3, f4, f5⟩ := O2.rows.at hyt
    rw [f2] at hx
    have hx := Option.some.inj hx
    subst hx
    have hm := List.mem_of_getElem? f1
    have hall := O2.all b0 (List.mem_cons_of_mem _ hm)
    have hba : b0 ≠ a := fun z => (List.nodup_cons.mp O2.nd).1 (by rw [← z]; exact hm)
    have hys : yss[t] ∈ yss := List.getElem_mem hlt
    have hjσ : j < σ'.length := by rw [S2.len, List.length_set]; exact hjl0
    show (tDrop (tBM G.K "list" rAppend (tVar j) (tCons (tC (.int n)) tNil))) _ (σ'.set j (some (.ref b0))) H3
    · refine ⟨.ref b0, List.getElem?_set_self hjσ, .inl ⟨rfl, ws, SqL.of f3⟩, ?_⟩
      refine ⟨b0, ws, .int n, rfl, rfl, f3, by rw [f4.length]; exact Nat.lt_of_lt_of_le (hl _ hys) (by decide), ?_⟩
      have S3 := S2.forget j (some (.ref b0))
      rw [List.set_set] at S3
      have hno : ∀ c ∈ a :: F, ∀ (j' : Nat) (s : Sd), (σ'.set j (some (V.ref b0)))[j']? = some (some (.ref c)) → (ds.set j Sd.un)[j']? = some s → isOwn s = false := fun c hc j' s h1 h2 => by
        by_cases hjj : j = j'
        · subst hjj; exact hjl s h2
        · rw [List.getElem?_set_ne hjj] at h1
          exact O2.no c hc j' s h1 h2
      have S4 := S3.updM (D := b0) (o := .lst (ws ++ [.int n])) hall.1 hall.2 (fun _ z => nomatch z) (hno b0 (List.mem_cons_of_mem _ hm))
      refine ⟨S4, un2, by rw [List.getElem?_set_ne hj]; exact O2.at_, O2.all, O2.nd, by rw [upd_ne (Ne.symm hba)]; exact O2.ha, ?_, hno⟩
      have q := RowsP.set (ws' := ws ++ [.int n]) (ys' := yss[t] ++ [.int n]) (f4.append (.cons (.int n) .nil)) (fun y hy => by
        rcases List.mem_append.mp hy with hy | hy
        · exact hf _ hys y hy
        · rw [List.mem_singleton.mp hy]; rfl) O2.rows (List.nodup_cons.mp O2.nd).2 f1
      rw [set_mid (fun ys : List D => ys ++ [D.int n]) yss t hlt] at q
      exact q
  · have et : t = yss.length := by omega
    subst et
    refine .inl ⟨⟨vs, SqL.of O2.ha, Nat.le_of_eq lv⟩, ?_⟩
    have q : (yss.take yss.length).map (· ++ [D.int n]) ++ yss.drop yss.length = yss.map (· ++ [D.int n]) := by simp
    rw [q] at O2
    exact k gs M F H2 σ' a vs S2 O2 Dn w
end
end Sh
namespace Sh
open PySem PySem.Spec PySem.Calls PyProof.Rows L2
theorem eo_cal {G : Gx} {b b1 n : Nat} {t : TA} {ds : List Sd} {F : Fd} {E : L2.St → XK} {es xs : List D} (ha : EaD G true b b1 t ds es) (h : Cal F es (.lst xs)) (hn : es.length = n) (ho : F.own = true := by rfl) (ho2 : F.own2 = false := by rfl) :
    EoD G b b1 (tCl n 0 (SpD G.K F) (fun vs _ => vs) E t tNil) ds xs := eos_cl (c := 0) ha ho h.n h.dom (by rw [h.cost]; exact Nat.le_refl _) (fun d q => ⟨xs, h.res d q, rfl⟩) h.exn hn (by omega) ho2
theorem eo_lc1 {G : Gx} {b b' : Nat} {wi : TI} {g : TG} {te : TE} {vs : List Nat} {ds : List Sd} {n : Nat} {it : Nat → D} (f : Nat → D) (hi : EvI G b b' wi ds n it) (hn : n ≤ 100000)
    (hs : ∀ i, i < n → ∃ ds'', TgR G.K vs g (it i) (wipeD ds vs) ds'' ∧ ∀ b0, EvD G true b0 b0 te ds'' (f i)) : EoD G b b' (tLc wi g tYes te vs) ds ((List.range n).map f) := by
  refine eos_lc 0 (fun i acc => acc = (List.range i).map f) hi hn rfl ?_ ?_ ?_ (by omega)
  · intro i acc hlt e
    obtain ⟨ds'', t1, t2⟩ := hs i hlt
    refine ⟨ds'', t1, fun b0 => ⟨true, et_yes, fun h => (t2 b0).imp fun d ed => ?_, fun h => nomatch h⟩⟩
    rw [ed, e, List.range_succ, List.map_append]
    rfl
  · intro acc e
    rw [e, List.length_map, List.length_range]
    exact Nat.le_refl _
  · intro i acc e
    rw [e, List.length_map, List.length_range]
    exact Nat.le_refl _
end Sh

/-! Sh21: exceptions that are caught and kept. -/
namespace Sh
open PySem PySem.Spec PySem.Calls PyProof.Rows L2
/-- an exception that is known to the letter -/
def EX (oe : Obj) (a : Addr) : HO := .frz oe (.ext fun h => h.get? a = some oe)
theorem ex_ok {P : Program} {w : World} {H : Hp} {h : Heap} {a : Addr} {oe : Obj} (e : h.get? a = some oe) : ObjOk P w H h a (EX oe a) := ⟨e, e, ⟨oe, e⟩, fun h1 h2 z k => k _ z⟩
section
variable {X : Cx} {pins : List (Addr × Obj)} {σ : L2.St} {H : Hp} {s sI : Shared} {a : Addr} {oe : Obj}
theorem Inv.keepE (J : Inv X pins σ H sI) (J4 : Inv X pins σ H s) (hn : sI.heap.get? a = none) (ha : H a = none) (hx : X.ex = []) (he : s.heap.get? a = some oe) : Inv X pins σ (upd H a (EX oe a)) s := by
  have n0 : ∀ b o, X.s_0.heap.get? b = some o → b ≠ a := fun b o e z => by
    obtain ⟨o', e'⟩ := J.base.there b o e (by rw [hx]; exact fun z => nomatch z)
    rw [z, hn] at e'; cases e'
  have hne : ∀ {b : Addr} {u : HO}, H b = some u → b ≠ a := fun {b u} e z => by rw [z, ha] at e; cases e
  have nL : X.env.locals ≠ a := fun z => by
    obtain ⟨m, ⟨o, _, _, e, _⟩, _⟩ := J.loc
    rw [z, hn] at e; cases e
  have nC : ∀ x c, X.env.cells.lookup x = some c → c ≠ a := fun x c e z => by
    obtain ⟨v, o, e', _⟩ := J.cell x c e
    rw [z, hn] at e'; cases e'
  refine ⟨J4.ok, J4.os, J4.bare, ⟨J4.base.keep, J4.base.slot, fun b o e n hx' => ?_, J4.base.there, fun b xs e => ?_, fun b o u e => ?_, fun b ps e => ?_⟩, J4.loc, J4.cell, by rw [upd_ne nL]; exact J4.free, fun x c e => by rw [upd_ne (nC x c e)]; exact J4.freeC x c e, fun p hp => ?_, fun b u e => ?_, J4.len⟩
  · rw [upd_ne (n0 b o e)]
    exact J4.base.free b o e n hx'
  · have q := J4.base.tups b xs e
    rw [upd_ne (hne q)]; exact q
  · have q := J4.base.frzs b o u e
    rw [upd_ne (hne q)]; exact q
  · obtain ⟨more, q⟩ := J4.base.tbls b ps e
    exact ⟨more, by rw [upd_ne (hne q)]; exact q⟩
  · obtain ⟨h1, h2, h3, h4, h5⟩ := J4.pin p hp
    have np : p.1 ≠ a := fun z => by
      have q := (J.pin p hp).1
      rw [z, hn] at q; cases q
    exact ⟨h1, by rw [upd_ne np]; exact h2, h3, h4, h5⟩
  · by_cases hb : b = a
    · subst hb
      rw [upd_same] at e
      cases e
      exact ex_ok he
    · rw [upd_ne hb] at e
      refine (J4.hok b u e).stay (fun _ _ _ q => q) (fun c q => ?_) fun c xs q => ?_
      · rw [upd_ne (hne q)]; exact q
      · rw [upd_ne (hne q)]; exact q
theorem Inv.suiteE (I : Inv X pins σ H s) : Inv (X.suite a (X.pn ++ pins)) [] σ H s :=
  ⟨I.ok.suite _ _, I.os, I.bare, I.base, I.loc, I.cell, I.free, I.freeC, fun p hp => I.pin p (by rw [List.append_nil] at hp; exact hp), I.hok, I.len⟩
theorem Inv.unsuiteE {pn' : List (Addr × Obj)} (I : Inv (X.suite a (X.pn ++ pins)) pn' σ H s) (ok : X.Ok) : Inv X pins σ H s :=
  ⟨ok, I.os, I.bare, I.base, I.loc, I.cell, I.free, I.freeC, fun p hp => I.pin p (List.mem_append_left _ hp), I.hok, I.len⟩
end
/-- what the clause 'except x as n' wishes; the exception is kept -/
def wAsK (K : PySem.W.Frag) (c : Value) (i : Nat) (ts : TS) (Wout : WX) (D : Ends) : WX := fun cls d σ H =>
  ∃ b, PySem.W.exmOne K cls c = some b ∧ (b = true → ∀ a oe, H a = none → Zc cls d oe → (∃ vs, oe.data = .fields vs) → ts { nx := fun σ' H' => D.nx (σ'.set i none) H', rt := D.rt, bk := fun σ' H' => D.bk (σ'.set i none) H', ct := fun σ' H' => D.ct (σ'.set i none) H' } (σ.set i (some (.ref a))) (upd H a (EX oe a))) ∧
    (b = false → Wout cls d σ H)
section
variable {X : Cx} {x n : Str} {c : Value} {i : Nat} {body suite : List Stmt} {b₀ : Stmt} {np pos pos' : Pos} {tb : WX → TS} {ts : TS} {Wout : WX}
theorem ps_tryK (hx0 : X.ex = []) (hs : X.stack = X.env :: X.outer) (hf : X.env.frame = some X.env.locals) (hN : X.N.Nodup) (hi : X.N[i]? = some n) (hln : X.env.kindOf n = some .local) (hc : Names X x c) (tk : Takes X Wout)
    (hb : ∀ (W : WX) (pn : List (Addr × Obj)) (xe : Value → Shared → Prop), Takes (X.tr pn xe) W → PassesOwn (model X.prog X.w) X.A X.env xe → PSs (X.tr pn xe) body (tb W))
    (hsu : ∀ (a : Addr) (pn : List (Addr × Obj)), PSs (X.suite a pn) (b₀ :: suite) ts) :
    PS X (.Try body [.ExceptHandler (some (.Name x np)) (some n) (b₀ :: suite) pos'] [] [] pos) (fun D σ H => tb (wAsK X.K c i ts Wout D) D σ H) := by
  refine ⟨fun pins s σ H D I h => ?_⟩
  have ok := I.ok
  have hfr : X.A.frames = some (X.env :: X.outer) := by rw [ok.frames, hs]
  have hloc : Loc X.env.scope n := .inl hln
  refine wpAny_Try_except ?_
  refine wpAny_mono ((hb (wAsK X.K c i ts Wout D) (X.pn ++ pins) (fun e s₁ => wpAny (model X.prog X.w) X.A (noteFrame e X.env) (fun _ s₂ => wpAny (model X.prog X.w) X.A (setFlight e none) (fun _ s₃ =>
    wpAny (model X.prog X.w) X.A (handleBy e X.env [.ExceptHandler (some (.Name x np)) (some n) (b₀ :: suite) pos']) (SP X pins D) X.xe s₃) X.xe s₂) X.xe s₁) (fun u s' xx => ?_) PassesOwn.looking).run [] s σ H D (I.toTry _) h) (fun f s1 hsp => ?_) (fun e s1 he => he)
  · -- the catch
    obtain ⟨a, B, sI, pins', σ', H', cls, d, rfl, J', nb, up, sky, na, os, ag, b, hb1, hyes, hno⟩ := xx
    have J : Inv X pins σ' H' sI := J'.ofTry ok
    have sky' : Sky B (X.env :: X.outer) a (Zc cls d) X.env.locals s'.heap := by rw [← hs]; exact sky
    show wpAny (model X.prog X.w) X.A (noteFrame (.ref a) X.env) _ _ _
    refine Sky.land Zc.steady hfr hf sky' fun h3 fl3 up3 => ?_
    have J3 : Inv X pins σ' H' { s' with heap := h3 } := J.landed nb fl3.1 (up.trans up3) os ag
    obtain ⟨oe3, vs3, he3, hz3, hd3⟩ := fl3.there
    have notFr : ∀ {h : Heap} {o : Obj} {vs : Array Value}, h.FunFrames B (X.env :: X.outer) → h.get? a = some o → o.data = .fields vs → a ∉ frs (X.env :: X.outer) := fun {h o vs} ff e dd hm => by
      obtain ⟨_, o', e', hnf⟩ := ff.mem hm
      rw [e] at e'; cases e'
      exact hnf _ dd
    have nfr := notFr fl3.2.2.1 he3 hd3
    have nL : a ≠ X.env.locals := fun z => nfr (List.mem_filterMap.mpr ⟨X.env, List.mem_cons_self, by rw [hf, z]⟩)
    have nF : a ∉ X.fs := fun hm => by
      obtain ⟨e, he, q⟩ := List.mem_filterMap.mp hm
      exact nfr (List.mem_filterMap.mpr ⟨e, List.mem_cons_of_mem _ he, q⟩)
    have hnI : sI.heap.get? a = none := by
      cases e : sI.heap.get? a with
      | none => rfl
      | some o =>
        have q := nb a o e (by rw [hs]; exact nfr)
        rw [fl3.2.1] at q; cases q
    have S3 := J3.suite he3 hd3 na nL nF
    refine wpAny_handleBy_cons (codeAny_handlers_test ?_) (by intro q; cases q)
    have LT : PySem.W.Looks (model X.prog X.w) h3 (typeOf (.ref a)) cls := fun A Q E s k q => wpAny_typeOf_ref (k _ _ he3) (by rw [hz3.1]; exact q)
    have LM := PySem.W.exm_one (M := model X.prog X.w) (J3.kIn) LT hb1
    have test : ∀ {Q : Value → Shared → Prop} {E : Value → Shared → Prop}, Q c { s' with heap := h3 } → wpAny (model X.prog X.w) (X.A.mark (some (.ref a))) (eval (.Name x np) X.env) Q E { s' with heap := h3 } := fun {Q E} q => by
      obtain ⟨hg, hdbg, hm | ⟨hm, hv, hnn⟩⟩ := hc
      · exact ld_glob (X := X.suite a ((a, oe3) :: (X.pn ++ pins))) S3 hg hm q hdbg
      · exact ld_blt (X := X.suite a ((a, oe3) :: (X.pn ++ pins))) S3 hg hm hv q hnn hdbg
    refine test (LM.here ?_)
    cases b with
    | true =>
      refine codeAny_handlers_suite_as ?_
      refine HandSPX.lands_againZ fl3 fun h4 fl4 up4 => ?_
      have J4 : Inv X pins σ' H' { s' with heap := h4 } := J.landed nb fl4.1 ((up.trans up3).trans up4) os ag
      obtain ⟨oe4, vs4, he4, hz4, hd4⟩ := fl4.there
      have JK : Inv X pins σ' (upd H' a (EX oe4 a)) { s' with heap := h4 } := Sh.Inv.keepE J J4 hnI na hx0 he4
      have S4 : Inv (X.suite a (X.pn ++ pins)) [] σ' (upd H' a (EX oe4 a)) { s' with heap := h4 } := Sh.Inv.suiteE JK
      refine store_ok (X := X.suite a (X.pn ++ pins)) (v := .ref a) S4 hN hi hloc rfl (fun s5 S5 => ?_) (.inr hln)
      refine wpAny_mono ((hsu a (X.pn ++ pins)).run [] s5 _ _ _ S5 (hyes rfl a oe4 na hz4 ⟨_, hd4⟩)) (fun f s6 hsp => ?_) (fun _ _ z => False.elim z)
      have end_ : ∀ {σ6 : L2.St} {H6 : Hp} {Q : Shared → Prop}, Inv (X.suite a (X.pn ++ pins)) [] σ6 H6 s6 → (∀ s7, Inv X pins (σ6.set i none) H6 s7 → Q s7) →
          wpAny (model X.prog X.w) X.A (do bindName X.env n .none; unbindBehindTheSuite X.env n pos') (fun _ s7 => Q s7) X.xe s6 := fun {σ6 H6 Q} S6 hq => gone_ok (Sh.Inv.unsuiteE S6 ok) hN hi hln hq
      cases f with
      | next =>
        obtain ⟨σ6, H6, S6, q6⟩ := hsp
        exact end_ S6 fun s7 J7 => ⟨_, _, J7, q6⟩
      | brk =>
        obtain ⟨σ6, H6, S6, q6⟩ := hsp
        exact end_ S6 fun s7 J7 => ⟨_, _, J7, q6⟩
      | cont =>
        obtain ⟨σ6, H6, S6, q6⟩ := hsp
        exact end_ S6 fun s7 J7 => ⟨_, _, J7, q6⟩
      | ret u =>
        obtain ⟨v6, σ6, H6, S6, r6, q6⟩ := hsp
        exact end_ S6 fun s7 J7 => ⟨_, _, _, J7, r6, q6⟩
    | false =>
      show wpAny _ X.A (handleBy (.ref a) X.env []) _ _ _
      refine wpAny_handleBy_nil ?_
      obtain ⟨k1, k2, k3, oe, vs, T, oT, ts', he, hz, hd, h1, hr⟩ := id fl3
      unfold PySem.passOn
      refine wpAny_bind (wpAny_field he hd h1 ?_)
      rw [if_neg (show ¬ ((Value.ref T == Value.none) = true) from by simp)]
      have fin : wpAny (model X.prog X.w) X.A (setFlight (.ref a) X.env.frame) (fun _ s4 => wpAny (model X.prog X.w) X.A (throw (.ref a) : Sem Flow) (SP X pins D) X.xe s4) X.xe { s' with heap := h3 } := by
        rw [hf]
        refine HandSPX.setFlight_upZ fl3 fun h4 hh4 up4 => wpAny_throw (tk _ _ ?_)
        exact ⟨a, B, sI, pins, σ', H', cls, d, rfl, J, nb, (up.trans up3).trans up4, .inr (.inr (by rw [hs]; exact hh4)), na, os, ag, hno rfl⟩
      first
        | exact wpAny_bind (wpAny_pure (wpAny_bind fin))
        | exact wpAny_bind fin
  · cases f with
    | next =>
      obtain ⟨σ', H', J', q⟩ := hsp
      exact wpAny_execs_nil ⟨σ', H', J'.ofTry ok, q⟩
    | brk =>
      obtain ⟨σ', H', J', q⟩ := hsp
      exact ⟨σ', H', J'.ofTry ok, q⟩
    | cont =>
      obtain ⟨σ', H', J', q⟩ := hsp
      exact ⟨σ', H', J'.ofTry ok, q⟩
    | ret u =>
      obtain ⟨v, σ', H', J', r, q⟩ := hsp
      exact ⟨v, σ', H', J'.ofTry ok, r, q⟩
end
end Sh
namespace Sh
open PySem PySem.Spec PySem.Calls PyProof.Rows L2
/-! ### a kept exception's field, its kinds -/
def tFldE (K : PySem.W.Frag) (n : Str) (te : TE) : TE := fun σ H Q => te σ H fun x H1 => ∃ (a C dd : Addr) (oe : Obj) (u : HO) (fs : List (Str × V)) (v : V), x = .ref a ∧ H1 a = some (.frz oe u) ∧ Zc (.ref C) (some dd) oe ∧ (∃ vs, oe.data = .fields vs) ∧ XfC K C ∧ PySem.W.findIn K (.ref C) n = some none ∧
  H1 dd = some (.xd fs) ∧ fs.lookup n = some v ∧ Q v H1
theorem g_fldE {X : Cx} {K : PySem.W.Frag} (hK : X.K = K) {e : Expr} {te : TE} {pos : Pos} {n : Str} (he : PE X e te) (hb : attributeBase e n X.env (eval e X.env) = eval e X.env := by rfl) : PE X (.Attribute e n pos) (tFldE K n te) := by
  subst hK
  refine ⟨fun pins s σ H Q I h => ?_⟩
  refine attr_of hb (thn (he.run pins s σ H _ I h) fun u s1 hh => ?_)
  obtain ⟨x, H1, I1, rx, a, C, dd, oe, uo, fs, v, ex, hea, hz, hf, T, hno, ea, l, q⟩ := hh
  subst ex
  obtain rfl : u = Value.ref a := rx
  obtain ⟨ha, _⟩ := (show ObjOk X.prog X.w H1 s1.heap a (.frz oe uo) from I1.hok a _ hea)
  obtain ⟨vs, hd⟩ := hf
  have hx : ObjOk X.prog X.w H1 s1.heap dd (.xd fs) := I1.hok dd _ ea
  obtain ⟨mA, hns, hr⟩ := hx
  obtain ⟨od, ho, hl⟩ := lookIn_ns hns
  obtain ⟨u, hu, ru⟩ := RelO.some_of (v := v) (o := mA n) (by rw [← l]; exact hr n)
  have J : PySem.W.InstAt s1.heap a oe C (some od) := ⟨ha, hz.1, by unfold PySem.W.notCls; rw [hd] <;> rfl, by rw [hz.2]; exact ho⟩
  exact HandSPX.exc_get I1.kIn J T.ga T.gg T.exC (PySem.W.findObj_own T.hdC hno rfl (by rw [hl, hu])) (handed_of ru) ⟨v, H1, I1.tok _, ru, q⟩
def ExIs (K : PySem.W.Frag) (H : Hp) (a D : Addr) : Prop := ∃ (dd : Addr) (oe : Obj) (u : HO) (fs : List (Str × V)), H a = some (.frz oe u) ∧ Zc (.ref D) (some dd) oe ∧ (∃ vs, oe.data = .fields vs) ∧ H dd = some (.xd fs) ∧ ExcC K D
def rIsiX (K : PySem.W.Frag) : List V → Hp → VK → Prop := fun xs H Q => ∃ (a D : Addr) (c : V) (cv : Value) (b : Bool), xs = [.ref a, c] ∧ ClsV c cv ∧ ExIs K H a D ∧ PySem.W.kitOne K (.ref D) cv = some b ∧ Q (.bl b) H
def rIsiTX (K : PySem.W.Frag) : List V → Hp → VK → Prop := fun xs H Q => ∃ (a D tp : Addr) (cs : List V) (us : List Value) (b : Bool), xs = [.ref a, .ref tp] ∧ H tp = some (.tup cs) ∧ Paired ClsV cs us ∧ ExIs K H a D ∧ PySem.W.kitAny K (.ref D) us = some b ∧ Q (.bl b) H
section
variable {X : Cx}
theorem exis_kit {pins : List (Addr × Obj)} {σ : L2.St} {H : Hp} {s : Shared} {a D : Addr} (I : Inv X pins σ H s) (h : ExIs X.K H a D) : ∃ P : Heap → Prop, PySem.W.KitX X.K (.ref a) (.ref D) P ∧ P s.heap := by
  obtain ⟨dd, oe, u, fs, hea, hz, ⟨vs, hd⟩, ea, C⟩ := h
  obtain ⟨ha, _⟩ := (show ObjOk X.prog X.w H s.heap a (.frz oe u) from I.hok a _ hea)
  have hx : ObjOk X.prog X.w H s.heap dd (.xd fs) := I.hok dd _ ea
  obtain ⟨mA, hns, hr⟩ := hx
  obtain ⟨od, ho, hl⟩ := lookIn_ns hns
  have J : PySem.W.InstAt s.heap a oe D (some od) := ⟨ha, hz.1, by unfold PySem.W.notCls; rw [hd] <;> rfl, by rw [hz.2]; exact ho⟩
  exact ⟨_, PySem.W.kitx_exc (by obtain ⟨cd, hc, _⟩ := PySem.W.any_some C.hd; rw [hc]; rfl) C.hg C.hk C.hs C.ha C.hn C.ht C.hm, J⟩
theorem call_isiX : CallR X (.builtin "isinstance") (rIsiX X.K) := by
  intro pins s σ H xs us Q I r h
  obtain ⟨a, D, c, cv, b, rfl, k, ex, e, q⟩ := h
  obtain ⟨u1, u2, rfl, r1, r2⟩ := vals2 r
  have e2 := k.eq r2
  subst e2
  cases (show u1 = Value.ref a from r1)
  obtain ⟨P, Z, p⟩ := exis_kit I ex
  exact PySem.W.kia_one Z I.kIn p e (fun z => nomatch z) fun tk => ⟨.bl b, H, I.tok tk, rfl, q⟩
theorem call_isiTX : CallR X (.builtin "isinstance") (rIsiTX X.K) := by
  intro pins s σ H xs us Q I r h
  obtain ⟨a, D, tp, cs, ws, b, rfl, hT, k, ex, e, q⟩ := h
  obtain ⟨u1, u2, rfl, r1, r2⟩ := vals2 r
  cases (show u1 = Value.ref a from r1)
  cases (show u2 = Value.ref tp from r2)
  obtain ⟨P, Z, p⟩ := exis_kit I ex
  obtain ⟨_, its, rv, o, h1, h2, n, h3⟩ := (show ObjOk X.prog X.w H s.heap tp (.tup cs) from I.hok tp _ hT)
  have e3 := ClsV.all k rv
  subst e3
  obtain ⟨oc, od, dt, sl⟩ := o
  simp only at h2 h3
  subst h2 h3
  exact PySem.W.kia_tup Z I.kIn p h1 e (fun z => nomatch z) fun tk => ⟨.bl b, H, I.tok tk, rfl, q⟩
end
def rIsiE (K : PySem.W.Frag) : List V → Hp → VK → Prop := fun xs H Q => rIsi K xs H Q ∨ rIsiX K xs H Q
def rIsiTE (K : PySem.W.Frag) : List V → Hp → VK → Prop := fun xs H Q => rIsiT K xs H Q ∨ rIsiTX K xs H Q
theorem g_isiE {X : Cx} {K : PySem.W.Frag} (hK : X.K = K) : CallR X (.builtin "isinstance") (rIsiE K) := by subst hK; exact call_isi.or call_isiX
theorem g_isiTE {X : Cx} {K : PySem.W.Frag} (hK : X.K = K) : CallR X (.builtin "isinstance") (rIsiTE K) := by subst hK; exact call_isiT.or call_isiTX
/-- a value's class -/
inductive ClsD (K : PySem.W.Frag) : D → Value → Prop
  | kind {d : D} {s : String} (h : d.kind = some s) : ClsD K d (.type s)
  | exc {C : Addr} {fs : List (Str × D)} (h : ExcC K C) : ClsD K (.exc C fs) (.ref C)
/-- a class as data -/
inductive ClsC : D → V → Value → Prop
  | ty (n : String) : ClsC (.ty n) (.ty n) (.type n)
  | own (C : Addr) : ClsC (.ref C) (.ref C) (.ref C)
theorem c_isiE {K : PySem.W.Frag} {d c : D} {vc : V} {t cv : Value} {r : Bool} (h : ClsD K d t) (hc : ClsC c vc cv) (hk : PySem.W.kitOne K t cv = some r) : ClD K (rIsiE K) [d, c] (.bl r) := fun N b H vs Q hN l rr k => by
  cases rr with
  | cons r1 r2 =>
    cases r2 with
    | cons r2 r3 =>
      cases r3
      have cc : ∀ v, Rp K (msk N H) v c → v = vc ∧ ClsV vc cv := fun v q => by
        cases hc with
        | ty n => cases q; exact ⟨rfl, .ty n⟩
        | own C => cases q; exact ⟨rfl, .own C⟩
      obtain ⟨e2, cl⟩ := cc _ r2
      subst e2
      cases h with
      | kind h => exact .inl ⟨_, _, _, _, r, rfl, cl, (r1.mono msk_all).tyX h, hk, k _ _ _ rfl (Ext.refl H) l (.bl _)⟩
      | exc h =>
        cases r1 with
        | exc h1 z f x q => exact .inr ⟨_, _, _, _, r, rfl, cl, ⟨_, _, _, _, (msk_of h1).2, z, f, (msk_of x).2, h⟩, hk, k _ _ _ rfl (Ext.refl H) l (.bl _)⟩
def tKs : List V → TA
  | [] => tNil
  | v :: vs => tCons (tC v) (tKs vs)
theorem tKs_run : ∀ (vs : List V) (σ : L2.St) (H : Hp) (Q : List V → Hp → Prop), Q vs H → tKs vs σ H Q
  | [], _, _, _, h => h
  | v :: vs, σ, H, Q, h => tKs_run vs σ H (fun xs H1 => Q (v :: xs) H1) h
theorem ev_isiTE {G : Gx} {p : Bool} {b b' : Nat} {te : TE} {ds : List Sd} {d : D} {t : Value} {r : Bool} (cs : List V) {cvs : List Value} (h : EvD G false b b' te ds d) (hd : ClsD G.K d t) (hcs : Paired ClsV cs cvs) (hk : PySem.W.kitAny G.K t cvs = some r) (hl : cs.length ≤ 1000 := by decide) :
    EvD G p b b' (tCB (rIsiTE G.K) (tCons te (tCons (tTup (tKs cs)) tNil))) ds (.bl r) := fun gs M H σ S Q k =>
  h gs M H σ S _ fun v d' H1 e e1 l1 rp => by
    subst e
    refine tKs_run cs σ H1 _ ⟨by rw [sizeLine_eq]; omega, fun a ha => ?_⟩
    have e2 : Ext H1 (upd H1 a (.tup cs)) := Ext.new ha
    have fin : Q (.bl r) (upd H1 a (.tup cs)) := k _ _ _ rfl (e1.trans e2) (l1.upd fun _ z => nomatch z) (.bl _)
    have rp2 := (rp.mono msk_all).mono e2.toKp
    cases hd with
    | kind hd => exact .inl ⟨v, a, cs, _, cvs, r, rfl, upd_same, hcs, rp2.tyX hd, hk, fin⟩
    | exc hd =>
      cases rp2 with
      | exc h1 z f x q => exact .inr ⟨_, _, a, cs, cvs, r, rfl, upd_same, hcs, ⟨_, _, _, _, h1, z, f, x, hd⟩, hk, fin⟩
theorem RpF.look {K : PySem.W.Frag} {H : Hp} {n : Str} {d : D} : ∀ {fs : List (Str × V)} {ds : List (Str × D)}, RpF K H fs ds → ds.lookup n = some d → ∃ v, fs.lookup n = some v ∧ Rp K H v d
  | _, _, .nil, h => by cases h
  | _, _, .cons (k := k) p q, h => by
    by_cases e : n = k
    · subst e
      simp [List.lookup] at h
      subst h
      exact ⟨_, by simp [List.lookup], p⟩
    · have e' : (n == k) = false := by simpa using e
      simp only [List.lookup, e'] at h
      obtain ⟨v, h1, h2⟩ := RpF.look q h
      exact ⟨v, by simp only [List.lookup, e']; exact h1, h2⟩
theorem ev_fldE {G : Gx} {p : Bool} {b b' : Nat} {te : TE} {ds : List Sd} {C : Addr} {fs : List (Str × D)} {n : Str} {d : D} (h : EvD G p b b' te ds (.exc C fs)) (T : XfC G.K C) (hno : PySem.W.findIn G.K (.ref C) n = some none) (hl : fs.lookup n = some d) : EvD G p b b' (tFldE G.K n te) ds d := fun gs M H σ S Q k =>
  h gs M H σ S _ fun v d' H1 e e1 l1 rp => by
    subst e
    cases rp with
    | exc h1 z f x q =>
      obtain ⟨w, h2, h3⟩ := q.look hl
      exact ⟨_, _, _, _, _, _, w, rfl, (msk_of h1).2, z, f, T, hno, (msk_of x).2, h2, k _ _ _ rfl e1 l1 h3⟩
/-! ### raise C(e), C with one field -/
def sp1 (K : PySem.W.Frag) (f : Str) : Sp := fun vs H Q _ => ∃ (a C : Addr) (y : V), vs = [.ref a, y] ∧ H a = some (exo a C none) ∧ OexC K C ∧ PySem.W.findIn K (.ref C) f = some none ∧ ∀ dx, H dx = none → dx ≠ a → Q .non (upd (upd H dx (exd dx [(f, y)])) a (exo a C (some dx)))
section
variable {P : Program} {w : World} {K : PySem.W.Frag} {mg : Str → Option Value} {base : Heap} {k : Nat} {f : Addr} {fd : FuncData}
theorem init1_fn {x qual fl : Str} {st : Stmt} (U : Fun K x qual st f fd) (S : FnScope ["self", fl] ["self", fl] (defScope st))
    (hbody : ∀ (cdv : Value) (A : Around) (outer : List Env) (s : Shared) (H : Hp) (E : XK), PSs (cxOf (L2.CX P w) P w K mg base ["self", fl] qual (defScope st) f cdv A outer s H E) (defBody st) (tOst K fl (tVar 0) (tVar 1))) :
    FnOk P w K mg base (L2.CX P w) 1 f fd ["self", fl] (sp1 K fl) := by
  obtain ⟨oc, od, kV, doc, pm, an, cdv, ct, osl, rfl, lk, hcd⟩ := U.ex
  refine fn_of lk hcd S (fun vs H Q E ⟨a, C, y, e, _⟩ => by rw [e]; rfl) fun A outer s H vs Q E hr hsp => ?_
  obtain ⟨a, C, y, rfl, h1, h2, h3, h4⟩ := hsp
  exact ⟨_, hbody cdv A outer s H E, y, rfl, .ref a, rfl, a, C, rfl, h2, h3, .inl ⟨h1, h4⟩⟩
end
def tRaise1 (K : PySem.W.Frag) (C : Addr) (f : Str) (W : WX) (ta : TA) : TS := fun _ σ H => tMkO C (sp1 K f) [] ta σ H fun cls d H' => W cls d σ H'
/-- what is known of a class X(e) with one field -/
structure Ex1 (P : Program) (w : World) (K : PySem.W.Frag) (mg : Str → Option Value) (base : Heap) (C fI : Addr) (fd : FuncData) (f : Str) : Prop where
  oex : OexC K C
  nof : PySem.W.findIn K (.ref C) f = some none
  iC : PySem.W.findIn K (.ref C) "__init__" = some (some (.ref fI))
  tI : PySem.W.typeIn K (.ref fI) = some (.type "function")
  bI : Binds K fd ["self", f] []
  F : FnOk P w K mg base (L2.CX P w) 1 fI fd ["self", f] (sp1 K f)
theorem g_raise1 {X : Cx} {K : PySem.W.Frag} (hK : X.K = K) {C fI : Addr} {fd : FuncData} {f x : Str} {e : Expr} {te : TE} {W : WX} {p pos pos2 : Pos} (hc : X.calm = true) (T : Ex1 X.prog X.w K X.mg X.base C fI fd f) (hr : Room 2 X.A) (tk : Takes X W) (hg : Gl X x) (hm : X.mg x = some (.ref C)) (he : PE X e te)
    (hdb : (x == ("__debug__" : Str)) = false := by decide) (hse : starEach (e :: []) X.env = (false, eval e X.env) :: starEach [] X.env := by rfl) (hpl : (backTo pos (starEach [] X.env)).any (·.1) = false := by rfl) :
    PS X (.Raise (some (.Call (.Name x p) [e] [] pos)) none pos2) (tRaise1 K C f W (tCons te tNil)) := by
  subst hK
  exact ps_raise hc tk (pmk_oex (CX := L2.CX X.prog X.w) T.oex T.iC T.tI T.F hr T.bI .nil (fun pins σ H s e s' I c => pass_never σ pins H s e s' I c) hg hm (pa_cons he pa_nil hse) hdb hse hpl)
end Sh
namespace Sh
open PySem PySem.Spec PySem.Calls PyProof.Rows L2
theorem raise_heap {H1 : Hp} {a dx : Addr} {C : Addr} {f : Str} {v : V} (ha : H1 a = none) (hd : (upd H1 a (exo a C none)) dx = none) (ne : dx ≠ a) :
    upd (del (upd (upd (upd H1 a (exo a C none)) dx (exd dx [(f, v)])) a (exo a C (some dx))) a) dx (.xd [(f, v)]) = upd H1 dx (.xd [(f, v)]) := by
  funext b
  by_cases h1 : b = dx
  · rw [h1, upd_same, upd_same]
  · rw [upd_ne h1, upd_ne h1]
    by_cases h2 : b = a
    · rw [h2, del_same, ha]
    · rw [del_ne h2, upd_ne h2, upd_ne h1, upd_ne h2]
theorem w_raise1 {G : Gx} {b b' : Nat} {te : TE} {ds : List Sd} {E : DE} {C : Addr} {f : Str} {x : D} (acc : G.Acc) (ho : OexC G.K C) (hno : PySem.W.findIn G.K (.ref C) f = some none) (h : EvD G G.pm b b' te ds x) (hx : G.X C [(f, x)] ds b') : Wt G b (tRaise1 G.K C f G.W (tCons te tNil)) ds E := fun gs M H σ S Dn w => by
  refine h gs M H σ S _ fun v d H1 r e l rp => ?_
  subst r
  refine ⟨by show 1 ≤ 1000; decide, fun a ha => ⟨a, C, v, rfl, upd_same, ho, hno, fun dx hd ne => ⟨rfl, dx, [(f, v)], upd_same, ?_, ?_, ?_⟩⟩⟩
  · rw [upd_ne ne, upd_same]
  · rw [upd_ne ne] at hd; exact hd
  · have hd1 : H1 dx = none := by rw [upd_ne ne] at hd; exact hd
    show G.W (.ref C) (some dx) σ _
    rw [raise_heap ha hd ne]
    have S1 := S.step e l
    have e2 : Ext H1 (upd H1 dx (.xd [(f, v)])) := Ext.new hd1
    exact acc gs M b' _ σ ds C dx [(f, v)] [(f, d)] (S1.step e2 (l.upd fun _ z => nomatch z)) upd_same (S1.ext.free hd1) (fun z => S1.liv dx z hd1) (.cons (rp.mono (msk_mono e2.toKp)) .nil) hx
/-! ### try .. except C as e: .. -/
section
variable {K : PySem.W.Frag} {H0 H H' : Hp} {M0 M M' : Addr → Prop} {b b' : Nat} {σ σ' : List (Option V)} {ds ds' : List Sd} {gs gs' : List (V × D)}
theorem Stt.noGh (S : Stt K H0 M0 gs M b H σ ds) : Stt K H0 M0 [] M b H σ ds := ⟨S.ext, S.m0, S.new, S.liv, S.lim, S.len, S.sl, S.inj, S.ownNew, fun q hq => by cases hq⟩
/-- what is entered here -/
theorem Stt.enter (S : Stt K H0 M0 gs M b H σ ds) (no : ∀ s ∈ ds, isOwn s = false) : Stt K H M [] M b H σ ds :=
  ⟨Ext.refl H, fun _ h => h, fun a h n => absurd h n, S.liv, S.lim, S.len, S.sl, S.inj, (fun j c s h1 h2 h3 => by rw [no s (List.mem_of_getElem? h2)] at h3; cases h3), fun q hq => by cases hq⟩
theorem Stt.under (S : Stt K H0 M0 gs M b H σ ds) (S' : Stt K H M gs' M' b' H' σ' ds') : Stt K H0 M0 gs M' b' H' σ' ds' :=
  ⟨S.ext.trans S'.ext, fun a h => S'.m0 a (S.m0 a h), fun a h n => by
    by_cases hm : M a
    · exact S.new a hm n
    · exact S.ext.free (S'.new a h hm), S'.liv, S'.lim, S'.len, S'.sl, S'.inj, fun j c s h1 h2 h3 z => S'.ownNew j c s h1 h2 h3 (S.m0 c z), fun q hq => (S.gh q hq).mono ⟨fun a o h n => by
      obtain ⟨h1, h2⟩ := msk_of h
      rw [msk_no fun z => by have := S'.new a z h1; rw [this] at h2; cases h2]
      exact S'.ext.keep a o h2 n, fun a n h => by
      obtain ⟨h1, h2⟩ := msk_of h
      obtain ⟨m, q⟩ := S'.ext.pz a n h2
      exact ⟨m, by rw [msk_no fun z => by have := S'.new a z h1; rw [this] at h2; unfold PurseO at h2; cases h2]; exact q⟩⟩⟩
end
/-- try: .. except c as slot i: .. -/
def tTryK (K : PySem.W.Frag) (c : Value) (i : Nat) (tb : WX → TS) (ts : TS) (Wout : WX) : TS := fun D σ H => tb (wAsK K c i ts Wout D) D σ H
theorem g_tryK {X : Cx} {K : PySem.W.Frag} (hK : X.K = K) {x n : Str} {c : Value} {i : Nat} {body suite : List Stmt} {b₀ : Stmt} {np pos pos' : Pos} {tb : WX → TS} {ts : TS} {Wout : WX} (hx0 : X.ex = []) (hs : X.stack = X.env :: X.outer) (hf : X.env.frame = some X.env.locals) (hN : X.N.Nodup) (hi : X.N[i]? = some n) (hln : X.env.kindOf n = some .local) (hc : Names X x c) (tk : Takes X Wout)
    (hb : ∀ (W : WX) (pn : List (Addr × Obj)) (xe : Value → Shared → Prop), Takes (X.tr pn xe) W → PassesOwn (model X.prog X.w) X.A X.env xe → PSs (X.tr pn xe) body (tb W))
    (hsu : ∀ (a : Addr) (pn : List (Addr × Obj)), PSs (X.suite a pn) (b₀ :: suite) ts) :
    PS X (.Try body [.ExceptHandler (some (.Name x np)) (some n) (b₀ :: suite) pos'] [] [] pos) (tTryK K c i tb ts Wout) := by
  subst hK
  exact ps_tryK hx0 hs hf hN hi hln hc tk hb hsu
theorem w_tryK {G : Gx} {b : Nat} {ds : List Sd} {E : DE} {c : Value} {i : Nat} {tb : WX → TS} {ts : TS} {Wout : WX} (HX : Addr → List (Str × D) → List Sd → Nat → Prop) (no : ∀ s ∈ ds, isOwn s = false) (ho : E.ro = false)
    (h : ∀ (W : WX) (H : Hp) (M : Addr → Prop), (⟨G.K, H, M, W, HX, true⟩ : Gx).Acc → Wt ⟨G.K, H, M, W, HX, true⟩ b (tb W) ds E)
    (hH : ∀ C fs ds' b', HX C fs ds' b' → PySem.W.exmOne G.K (.ref C) c = some true ∧ Wt G b' ts (ds'.set i (.dat (.exc C fs))) { nx := fun ds b => E.nx (ds.set i .un) b, rt := E.rt, bk := fun ds b => E.bk (ds.set i .un) b, ct := fun ds b => E.ct (ds.set i .un) b, ro := E.ro, ro2 := E.ro2 }) :
    Wt G b (tTryK G.K c i tb ts Wout) ds E := fun gs M H σ S Dn w => by
  have S0 := S.enter no
  refine h (wAsK G.K c i ts Wout Dn) H M (fun gs1 M1 b1 H1 σ1 ds1 C dd fsV fs S1 h1 h2 h3 h4 h5 => ?_) [] M H σ S0 Dn ⟨fun M' b' H' σ' ds' S' e => w.nx M' b' H' σ' ds' (S.under S') e, fun M' b' H' σ' ds' v d S' e r o => w.rt M' b' H' σ' ds' v d (S.under S') e (r.mono (msk_sub S.m0)) (fun z => by rw [ho] at z; cases z), fun M' b' H' σ' ds' S' e => w.bk M' b' H' σ' ds' (S.under S') e, fun M' b' H' σ' ds' S' e => w.ct M' b' H' σ' ds' (S.under S') e⟩
  obtain ⟨g1, g2⟩ := hH C fs ds1 b1 h5
  refine ⟨true, g1, fun _ a oe ha hz hf => ?_, fun z => nomatch z⟩
  have S2 := S.under S1
  have e2 : Ext H1 (upd H1 a (EX oe a)) := Ext.new ha
  have S3 := S2.step e2 (S2.lim.upd fun _ z => nomatch z)
  have ndd : dd ≠ a := fun z => by rw [z, ha] at h1; cases h1
  have rp : Rp G.K (msk M1 (upd H1 a (EX oe a))) (.ref a) (.exc C fs) := .exc (msk_new S2.liv ha) hz hf (by rw [msk_no h3, upd_ne ndd]; exact h1) (RpF.mono (msk_mono e2.toKp) h4)
  have S4 := S3.set (i := i) rp
  exact g2 gs M1 _ _ S4 _ ⟨fun M b H σ ds S e => w.nx M b H _ _ (S.forget i none) e, w.rt, fun M b H σ ds S e => w.bk M b H _ _ (S.forget i none) e, fun M b H σ ds S e => w.ct M b H _ _ (S.forget i none) e⟩
end Sh
namespace Sh
open PySem
/-- the n-th statement of a class's body -/
def clsStmt : Stmt → Nat → Stmt
  | .ClassDef _ _ _ body _ _ _ _ _ _ _, n => body.getD n (.Pass ⟨0, 0, 0, 0⟩)
  | s, _ => s
end Sh
namespace Sh
open PySem PySem.Spec PySem.Calls PyProof.Rows L2
theorem excc_xf {K : PySem.W.Frag} {C : Addr} (h : ExcC K C) : XfC K C := ⟨h.hg, h.hk, h.hs, h.hd⟩
end Sh
namespace Sh
open PySem PySem.Spec PySem.Calls PyProof.Rows L2
theorem ev_isiTN {G : Gx} {p : Bool} {b b' : Nat} {te : TE} {ds : List Sd} {d : D} {t : Value} (As : List Addr) (h : EvD G false b b' te ds d) (hd : ClsD G.K d t) (hk : ∀ A ∈ As, PySem.W.kitOne G.K t (.ref A) = some false) (hl : As.length ≤ 1000) :
    EvD G p b b' (tCB (rIsiTE G.K) (tCons te (tCons (tTup (tKs (As.map V.ref))) tNil))) ds (.bl false) := by
  have h1 : ∀ As : List Addr, Paired ClsV (As.map V.ref) (As.map Value.ref) := fun As => by
    induction As with
    | nil => exact .nil
    | cons a as ih => exact .cons (.own a) ih
  have h2 : ∀ As : List Addr, (∀ A ∈ As, PySem.W.kitOne G.K t (.ref A) = some false) → PySem.W.kitAny G.K t (As.map Value.ref) = some false := fun As => by
    induction As with
    | nil => intro _; exact kitAny_nil
    | cons a as ih => intro h; exact kitAny_cons (h a List.mem_cons_self) (fun _ => ih fun A hA => h A (List.mem_cons_of_mem _ hA)) fun z => nomatch z
  exact ev_isiTE _ h hd (h1 As) (h2 As hk) (by rw [List.length_map]; exact hl)
end Sh
namespace Sh
open PySem PySem.Spec PySem.Calls PyProof.Rows L2
/-! ### facts of classes -/
theorem kit_cls0 {K : PySem.W.Frag} {t : Value} {C : Addr} {r : Bool} (h1 : PySem.W.isClsIn K C = true) (h2 : PySem.W.typeIn K (.ref C) = some (.type "type")) (h3 : PySem.W.subIn K t (.ref C) = some r) : PySem.W.kitCls K t (.ref C) = some r := by
  have e2 : ((PySem.W.clsIn K C).isSome && PySem.W.typeIn K (.ref C) == some (.type "type")) = true := by
    have h2' : (PySem.W.clsIn K C).isSome = true := h1
    rw [h2', h2] <;> rfl
  show (if ((PySem.W.clsIn K C).isSome && PySem.W.typeIn K (.ref C) == some (.type "type")) = true then PySem.W.subIn K t (.ref C) else none) = some r
  rw [if_pos e2]
  exact h3
theorem kit_sub {K : PySem.W.Frag} {t : Value} {C : Addr} {r : Bool} (h1 : PySem.W.isClsIn K C = true) (h2 : PySem.W.typeIn K (.ref C) = some (.type "type")) (h4 : PySem.W.subIn K (.ref C) (.ref C) = some true) (h3 : PySem.W.subIn K t (.ref C) = some r) : PySem.W.kitOne K t (.ref C) = some r := by
  unfold PySem.W.kitOne
  by_cases e : (t == Value.ref C) = true
  · rw [if_pos e]
    have e2 := beq_iff_eq.mp e
    rw [e2, h4] at h3
    exact h3
  · rw [if_neg e]
    exact kit_cls0 h1 h2 h3
theorem kit_non {K : PySem.W.Frag} {C : Addr} (h1 : PySem.W.isClsIn K C = true) (h2 : PySem.W.typeIn K (.ref C) = some (.type "type")) : PySem.W.kitOne K (.type "NoneType") (.ref C) = some false := by
  have h3 : PySem.W.subIn K (.type "NoneType") (.ref C) = some false := by
    have e : PySem.fastBuiltinMro "NoneType" = some [.type "NoneType", .type "object"] := by decide +kernel
    show (PySem.fastBuiltinMro "NoneType").map (·.contains (Value.ref C)) = some false
    rw [e]
    rfl
  unfold PySem.W.kitOne
  rw [if_neg (show ¬ (Value.type "NoneType" == Value.ref C) = true from fun z => by cases (beq_iff_eq.mp z))]
  exact kit_cls0 h1 h2 h3
theorem kit_vE {K : PySem.W.Frag} {C : Addr} {r : Bool} (h : PySem.W.subIn K (.ref C) (.type "ValueError") = some r) : PySem.W.kitOne K (.ref C) (.type "ValueError") = some r := by
  have e : PySem.W.kitMeta "ValueError" = true := by decide +kernel
  unfold PySem.W.kitOne
  rw [if_neg (show ¬ (Value.ref C == Value.type "ValueError") = true from fun z => by cases (beq_iff_eq.mp z))]
  show (if PySem.W.kitMeta "ValueError" = true then PySem.W.subIn K (.ref C) (.type "ValueError") else none) = some r
  rw [if_pos e]
  exact h
end Sh

set_option maxHeartbeats 4000000
namespace Lw
open PySem PySem.Spec PyProof.Rows L2 Sh
local macro_rules | `(tactic| walk_at "ev") => `(tactic| first
  | exact ev_var rfl
  | with_reducible exact ev_int
  | with_reducible exact ev_bl
  | with_reducible exact ev_non
  | with_reducible exact ev_str
  | with_reducible exact ev_dnew
  | ((with_reducible apply ev_op) <;> walk_at "ev")
  | ((with_reducible apply ev_un) <;> walk_at "ev")
  | ((with_reducible apply ev_lst) <;> first | walk_at "ev" | exact Nat.le_of_ble_eq_true rfl | skip)
  | ((with_reducible apply ev_tup) <;> first | walk_at "ev" | exact Nat.le_of_ble_eq_true rfl | skip)
  | ((with_reducible apply ev_cb) <;> walk_at "ev")
  | ((with_reducible apply ev_cal) <;> first | walk_at "cal" | walk_at "ev" | exact rfl)
  | ((with_reducible apply ev_calK) <;> first | walk_at "cal" | walk_at "ev" | exact rfl)
  | ((with_reducible apply ev_calD) <;> first | walk_at "cal" | walk_at "ev" | exact rfl | assumption)
  | ((with_reducible apply ev_ktup); assumption)
  | ((with_reducible apply (ev_chain (p := false) (w := .non))) <;> first | walk_at "ev" | (intro _; walk_at "ev"))
  | ((with_reducible apply ev_notV) <;> walk_at "ev")
  | ((with_reducible apply ev_slice) <;> walk_at "ev")
  | with_reducible exact ep_none
  | ((with_reducible apply ev_rev) <;> walk_at "ev")
  | ((with_reducible apply ep_some) <;> walk_at "ev")
  | with_reducible exact sl_L
  | with_reducible exact sl_T
  | with_reducible exact ev_ty
  | with_reducible exact ev_ref
  | with_reducible exact ea_nil
  | ((with_reducible apply ea_cons) <;> walk_at "ev")
  | ((with_reducible apply et_tst) <;> walk_at "ev")
  | ((with_reducible apply et_not) <;> walk_at "ev")
  | ((with_reducible apply et_tru) <;> first | walk_at "ev" | rfl)
  | ((with_reducible apply et_or) <;> first | walk_at "ev" | (intro _; walk_at "ev"))
  | ((with_reducible apply et_and) <;> first | walk_at "ev" | (intro _; walk_at "ev"))
  | ((with_reducible apply ev_andV) <;> first | walk_at "ev" | (intro _; walk_at "ev"))
  | ((with_reducible apply ev_orV) <;> first | walk_at "ev" | (intro _; walk_at "ev"))
  | walk_at "op"
  | exact ev_own rfl
  | exact ev_par rfl
  | ((with_reducible apply EvD.flatT) <;> first | walk_at "ev" | rfl))
local macro_rules | `(tactic| walk_at "op") => `(tactic| first
  | walk_at "op1"
  | ((with_reducible apply Op2D.as) <;> first | walk_at "op1" | rfl)
  | ((with_reducible apply ClD.as) <;> first | walk_at "op1" | rfl)
  | with_reducible apply Op2.id
  | with_reducible apply ClA.id)
local macro_rules | `(tactic| walk_at "op1") => `(tactic| first
  | with_reducible exact o_add | with_reducible exact o_sub | with_reducible exact o_lt | with_reducible exact o_le | with_reducible exact o_gt | with_reducible exact o_ge | with_reducible exact o_eqI | with_reducible exact o_neI | with_reducible exact u_neg
  | ((with_reducible apply o_mod); first | decide | omega | skip)
  | ((with_reducible apply o_mul); walk_at "mul")
  | ((with_reducible apply o_div); walk_at "div")
  | ((with_reducible apply o_pow); walk_at "pow")
  | with_reducible exact c_max | with_reducible exact c_min | with_reducible exact c_lenL | with_reducible exact c_lenT | with_reducible exact c_lenR
  | with_reducible exact o_isN1 | with_reducible exact o_notN1
  | ((with_reducible apply o_isN); first | exact (fun z => nomatch z) | assumption | skip)
  | ((with_reducible apply o_notN); first | exact (fun z => nomatch z) | assumption | skip)
  | with_reducible exact o_isB | with_reducible exact o_notB
  | with_reducible exact o_inI | with_reducible exact o_notinI | with_reducible exact o_inIT
  | with_reducible refine c_isiE (by assumption) (by first | exact ClsC.own _ | exact ClsC.ty _) (by assumption)
  | ((with_reducible apply c_isi) <;> first | walk_at "kb" | rfl)
  | with_reducible exact c_intI | with_reducible exact c_intB
  | ((with_reducible apply c_listof); first | rfl | skip)
  | ((with_reducible apply c_tupof); first | rfl | skip)
  | ((with_reducible apply c_sumL); first | rfl | skip)
  | ((with_reducible apply c_sumT); first | rfl | skip)
  | ((with_reducible apply c_all); first | rfl | skip)
  | ((with_reducible apply o_catT); first | decide | skip)
  | ((with_reducible apply o_catL); first | decide | skip)
  | ((with_reducible apply c_divm) <;> first | decide | omega | skip)
  | ((with_reducible apply o_ixL); first | rfl | assumption | skip)
  | ((with_reducible apply o_ixT); first | rfl | assumption | skip)
  | ((with_reducible apply o_ixR); first | assumption | skip))
local macro_rules | `(tactic| walk_at "mul") => `(tactic| first | assumption | exact cmul_of 70 70 (by decide) (by decide) | exact cmul_of 400 400 (by omega) (by omega) | skip)
local macro_rules | `(tactic| walk_at "div") => `(tactic| skip)
local macro_rules | `(tactic| walk_at "pow") => `(tactic| first | exact cpow_small 5 (by decide) (by decide) (by decide) | skip)
local macro_rules | `(tactic| walk_at "b") => `(tactic| (first | exact Nat.le_refl _ | exact Nat.le_add_left _ _ | omega))
local macro_rules | `(tactic| walk_at "tg") => `(tactic| first
  | exact tg_name
  | with_reducible exact tgs_nil
  | (apply tgs_cons <;> walk_at "tg")
  | (apply tg_tup (hl := rfl) <;> walk_at "tg")
  | (apply tg_lst (hl := rfl) <;> walk_at "tg"))
local macro_rules | `(tactic| walk_at "cal") => `(tactic| first
  | (with_reducible exact cl_make (by omega) (by omega))
  | (with_reducible exact cl_makeI (by omega) (by omega))
  | fail "no cal")
local macro_rules | `(tactic| walk_at "kb") => `(tactic| first
  | with_reducible exact kb_NoneType_bool
  | with_reducible exact kb_NoneType_int
  | with_reducible exact kb_NoneType_str
  | with_reducible exact kb_NoneType_list
  | with_reducible exact kb_NoneType_tuple
  | with_reducible exact kb_NoneType_dict
  | with_reducible exact kb_bool_bool
  | with_reducible exact kb_bool_int
  | with_reducible exact kb_bool_str
  | with_reducible exact kb_bool_list
  | with_reducible exact kb_bool_tuple
  | with_reducible exact kb_bool_dict
  | with_reducible exact kb_int_bool
  | with_reducible exact kb_int_int
  | with_reducible exact kb_int_str
  | with_reducible exact kb_int_list
  | with_reducible exact kb_int_tuple
  | with_reducible exact kb_int_dict
  | with_reducible exact kb_str_bool
  | with_reducible exact kb_str_int
  | with_reducible exact kb_str_str
  | with_reducible exact kb_str_list
  | with_reducible exact kb_str_tuple
  | with_reducible exact kb_str_dict
  | with_reducible exact kb_list_bool
  | with_reducible exact kb_list_int
  | with_reducible exact kb_list_str
  | with_reducible exact kb_list_list
  | with_reducible exact kb_list_tuple
  | with_reducible exact kb_list_dict
  | with_reducible exact kb_tuple_bool
  | with_reducible exact kb_tuple_int
  | with_reducible exact kb_tuple_str
  | with_reducible exact kb_tuple_list
  | with_reducible exact kb_tuple_tuple
  | with_reducible exact kb_tuple_dict
  | with_reducible exact kb_dict_bool
  | with_reducible exact kb_dict_int
  | with_reducible exact kb_dict_str
  | with_reducible exact kb_dict_list
  | with_reducible exact kb_dict_tuple
  | with_reducible exact kb_dict_dict)
def top (i : Nat) : Stmt := PySem.Challenge.pw_sherdhall_k01_numbers_by_97.main.body.getD i (.Pass ⟨0, 0, 0, 0⟩)
abbrev s_plus : Stmt := top 31
abbrev N_plus : List Str := ["one", "other"]
theorem sc_plus : FnScope N_plus ["one", "other"] (defScope s_plus) := ⟨rfl, rfl, rfl, by decide +kernel, rfl, by decide +kernel, by decide +kernel⟩
abbrev s_minus : Stmt := top 32
abbrev N_minus : List Str := ["one", "other"]
theorem sc_minus : FnScope N_minus ["one", "other"] (defScope s_minus) := ⟨rfl, rfl, rfl, by decide +kernel, rfl, by decide +kernel, by decide +kernel⟩
abbrev s_times : Stmt := top 33
abbrev N_times : List Str := ["one", "other"]
theorem sc_times : FnScope N_times ["one", "other"] (defScope s_times) := ⟨rfl, rfl, rfl, by decide +kernel, rfl, by decide +kernel, by decide +kernel⟩
abbrev s_power : Stmt := top 34
abbrev N_power : List Str := ["one", "many", "found", "base", "odd"]
theorem sc_power : FnScope N_power ["one", "many"] (defScope s_power) := ⟨rfl, rfl, rfl, by decide +kernel, rfl, by decide +kernel, by decide +kernel⟩
abbrev s_over : Stmt := top 35
abbrev N_over : List Str := ["one", "other"]
theorem sc_over : FnScope N_over ["one", "other"] (defScope s_over) := ⟨rfl, rfl, rfl, by decide +kernel, rfl, by decide +kernel, by decide +kernel⟩
abbrev s__law_purse : Stmt := top 37
abbrev N__law_purse : List Str := ["script", "k", "cell"]
theorem sc__law_purse : FnScope N__law_purse ["script", "k"] (defScope s__law_purse) := ⟨rfl, rfl, rfl, by decide +kernel, rfl, by decide +kernel, by decide +kernel⟩
abbrev s__law_drawn : Stmt := top 38
abbrev N__law_drawn : List Str := ["purse", "many", "found", "turn", "mixed"]
theorem sc__law_drawn : FnScope N__law_drawn ["purse", "many"] (defScope s__law_drawn) := ⟨rfl, rfl, rfl, by decide +kernel, rfl, by decide +kernel, by decide +kernel⟩
abbrev s__law_number : Stmt := top 39
abbrev N__law_number : List Str := ["purse", "kind", "sign", "found", "j"]
theorem sc__law_number : FnScope N__law_number ["purse"] (defScope s__law_number) := ⟨rfl, rfl, rfl, by decide +kernel, rfl, by decide +kernel, by decide +kernel⟩
abbrev s__law_whole : Stmt := top 40
abbrev N__law_whole : List Str := ["found"]
theorem sc__law_whole : FnScope N__law_whole ["found"] (defScope s__law_whole) := ⟨rfl, rfl, rfl, by decide +kernel, rfl, by decide +kernel, by decide +kernel⟩
abbrev s__law_same : Stmt := top 41
abbrev N__law_same : List Str := ["found", "due", "k"]
theorem sc__law_same : FnScope N__law_same ["found", "due"] (defScope s__law_same) := ⟨rfl, rfl, rfl, by decide +kernel, rfl, by decide +kernel, by decide +kernel⟩
abbrev s__law_classes : Stmt := top 42
abbrev N__law_classes : List Str := ["caught", "pairs", "other", "word", "there"]
theorem sc__law_classes : FnScope N__law_classes ["caught"] (defScope s__law_classes) := ⟨rfl, rfl, rfl, by decide +kernel, rfl, by decide +kernel, by decide +kernel⟩
abbrev s__law_quotient : Stmt := top 43
abbrev N__law_quotient : List Str := ["one", "other", "found", "caught", "e", "right"]
theorem sc__law_quotient : FnScope N__law_quotient ["one", "other"] (defScope s__law_quotient) := ⟨rfl, rfl, rfl, by decide +kernel, rfl, by decide +kernel, by decide +kernel⟩
abbrev s_law : Stmt := top 44
abbrev N_law : List Str := ["script", "k", "purse", "pick", "many", "one", "other", "product", "turn", "came", "number"]
theorem sc_law : FnScope N_law ["script"] (defScope s_law) := ⟨rfl, rfl, rfl, by decide +kernel, rfl, by decide +kernel, by decide +kernel⟩
abbrev s_NoRest_init : Stmt := clsStmt (top 2) 0
theorem sc_NoRest_init : FnScope ["self", "number"] ["self", "number"] (defScope s_NoRest_init) := ⟨rfl, rfl, rfl, by decide +kernel, rfl, by decide +kernel, by decide +kernel⟩
/-- a shape's numbers -/
def ShOk (g s u : Int) : Prop := (1 ≤ g ∧ g ≤ 4) ∧ (1 ≤ s ∧ s ≤ 4) ∧ (0 ≤ u ∧ u ≤ 2)
abbrev shD (g s u : Int) : D := .tup [.int g, .int s, .int u]
/-- things that are handed in -/
def plainK : D → Bool
  | .non => true
  | .bl _ => true
  | .int _ => true
  | .str _ => true
  | .lst _ => true
  | .tup _ => true
  | .dct _ => true
  | _ => false
def isI : D → Bool
  | .int _ => true
  | _ => false
def isNum : D → Bool
  | .int i => decide (0 ≤ i) && decide (i < 97)
  | _ => false
def toI : D → Int
  | .int i => i
  | _ => 0
/-- what may be handed in -/
def plainF : D → Prop
  | .lst xs => xs.length ≤ 100000 ∧ ∀ x ∈ xs, plainK x = true
  | d => plainK d = true
theorem ShOk.nat {g s u : Nat} (h : ShOk g s u) : (1 ≤ g ∧ g ≤ 4) ∧ (1 ≤ s ∧ s ≤ 4) ∧ u ≤ 2 := by
  obtain ⟨⟨a, b⟩, ⟨c, d⟩, e, f⟩ := h
  omega
theorem ShOk.many {g s u : Nat} (h : ShOk g s u) : g * (s + 1) + u ≤ 22 ∧ 2 ≤ g * (s + 1) + u := by
  obtain ⟨⟨a, b⟩, ⟨c, d⟩, f⟩ := h.nat
  have q : g * (s + 1) ≤ 4 * 5 := Nat.mul_le_mul b (by omega)
  have q2 : 1 * 2 ≤ g * (s + 1) := Nat.mul_le_mul a (by omega)
  omega

abbrev iL (ns : List Int) : List D := ns.map D.int
theorem getD_iL {ns : List Int} {i : Nat} (h : i < ns.length) : (iL ns).getD i .non = .int (ns.getD i 0) := by
  rw [List.getD_eq_getElem?_getD, List.getD_eq_getElem?_getD, List.getElem?_map, List.getElem?_eq_getElem h]
  rfl
theorem iL_inj {ns ms : List Int} (h : iL ns = iL ms) : ns = ms := by
  induction ns generalizing ms with
  | nil =>
    cases ms with
    | nil => rfl
    | cons m ms => cases h
  | cons n ns ih =>
    cases ms with
    | nil => cases h
    | cons m ms =>
      injection h with h1 h2
      injection h1 with h1
      rw [h1, ih h2]
theorem iL_app (ns ms : List Int) : iL (ns ++ ms) = iL ns ++ iL ms := List.map_append
theorem iL_len (ns : List Int) : (iL ns).length = ns.length := List.length_map ..
theorem pair_eq (a c x y : Int) : D.eq (.tup [.int a, .int c]) (.tup [.int x, .int y]) = (decide (a = x) && decide (c = y)) := by
  simp [D.eq, D.py, D.pyA, PyData.eqv, PyData.eqvAll, Bool.beq_eq_decide_eq]
theorem atI_iL {ms : List Int} {k : Nat} (hk : k < ms.length) : L2.atI (iL ms) (k : Int) = some (.int (ms.getD k 0)) := by
  refine atI_nn (by omega) ?_
  rw [Int.toNat_natCast]
  show (ms.map D.int)[k]? = _
  rw [List.getElem?_map, List.getD_eq_getElem?_getD, List.getElem?_eq_getElem hk]
  rfl

theorem map_getD (ns : List Int) : (List.range ns.length).map (fun i => ns.getD i 0) = ns := by
  apply List.ext_getElem
  · simp
  · intro i h1 h2
    rw [List.getElem_map, List.getElem_range, List.getD_eq_getElem?_getD, List.getElem?_eq_getElem h2]
    rfl
theorem lc_filter (q : Int → Bool) (ns : List Int) : ((List.range ns.length).filter fun i => q (ns.getD i 0)).map (fun i => D.int (ns.getD i 0)) = iL (ns.filter q) := by
  have e : ns.filter q = ((List.range ns.length).map fun i => ns.getD i 0).filter q := by rw [map_getD]
  rw [e, List.filter_map, iL, List.map_map]
  rfl
theorem eq_nil (ns : List Int) : D.eq (.lst (iL ns)) (.lst []) = decide (ns = []) := by
  cases ns with
  | nil => simp [D.eq, D.py, D.pyA, PyData.eqv, PyData.eqvAll]
  | cons n ns => simp [D.eq, D.py, D.pyA, PyData.eqv, PyData.eqvAll]
theorem shpL_iL (n : Nat) : ∀ ns : List Int, D.shpA n (iL ns) = true
  | [] => by simp [D.shpA]
  | m :: ns => by
    show (D.shp n (.int m) && D.shpA n (iL ns)) = true
    rw [shpL_iL n ns]
    simp [D.shp]
theorem shp_iL (n : Nat) : ∀ ns : List Int, D.shpA n (iL ns) = true
  | [] => by simp [D.shpA]
  | m :: ns => by
    show (D.shp n (.int m) && D.shpA n (iL ns)) = true
    rw [shp_iL n ns]
    simp [D.shp]
theorem shp_lst (ns : List Int) : D.shp 64 (.lst (iL ns)) = true := shp_iL 63 ns
theorem eq_iLA : ∀ ns : List Int, PyData.eqvAll (D.pyA (iL ns)) (D.pyA (iL ns)) = true
  | [] => by simp [D.pyA, PyData.eqvAll]
  | m :: ns => by
    show PyData.eqvAll (D.py (.int m) :: D.pyA (iL ns)) (D.py (.int m) :: D.pyA (iL ns)) = true
    simp only [PyData.eqvAll, eq_iLA ns, Bool.and_true]
    simp [D.py, PyData.eqv]
theorem eq_iL (ns : List Int) : D.eq (.lst (iL ns)) (.lst (iL ns)) = true := by
  simp only [D.eq, D.py, PyData.eqv]
  exact eq_iLA ns
theorem eq_iLm (ns ms : List Int) : D.eq (.lst (iL ns)) (.lst (iL ms)) = decide (ns = ms) := by
  have main : ∀ ns ms : List Int, PyData.eqvAll (D.pyA (iL ns)) (D.pyA (iL ms)) = decide (ns = ms) := by
    intro ns
    induction ns with
    | nil =>
      intro ms
      cases ms with
      | nil => simp [D.pyA, PyData.eqvAll]
      | cons m ms => simp [D.pyA, PyData.eqvAll]
    | cons n ns ih =>
      intro ms
      cases ms with
      | nil => simp [D.pyA, PyData.eqvAll]
      | cons m ms =>
        show PyData.eqvAll (D.py (.int n) :: D.pyA (iL ns)) (D.py (.int m) :: D.pyA (iL ms)) = _
        simp only [PyData.eqvAll, ih ms]
        have e : PyData.eqv (D.py (.int n)) (D.py (.int m)) = decide (n = m) := eq_int n m
        rw [e]
        by_cases h : n = m
        · subst h; simp
        · simp [h]
  simp only [D.eq, D.py, PyData.eqv]
  exact main ns ms

mutual
/-- plain data, no deeper than n -/
def sam : Nat → D → Bool
  | _, .non => true
  | _, .bl _ => true
  | _, .int _ => true
  | _, .str s => PyData.canLay0 (.str s)
  | 0, .lst _ => false
  | n + 1, .lst xs => samA n xs && decide (xs.length ≤ 100000)
  | 0, .tup _ => false
  | n + 1, .tup xs => samA n xs && decide (xs.length ≤ 100000)
  | _, _ => false
def samA : Nat → List D → Bool
  | _, [] => true
  | n, x :: xs => sam n x && samA n xs
end
theorem samA_at {n : Nat} {xs : List D} (h : samA n xs = true) {i : Nat} (hi : i < xs.length) : sam n (xs.getD i .non) = true := by
  induction xs generalizing i with
  | nil => cases hi
  | cons x xs ih =>
    simp only [samA, Bool.and_eq_true] at h
    cases i with
    | zero => exact h.1
    | succ i => exact ih h.2 (Nat.lt_of_succ_lt_succ hi)
theorem samA_of {n : Nat} : ∀ {xs : List D}, (∀ x ∈ xs, sam n x = true) → samA n xs = true
  | [], _ => by simp [samA]
  | x :: xs, h => by
    simp only [samA, Bool.and_eq_true]
    exact ⟨h x List.mem_cons_self, samA_of fun y hy => h y (List.mem_cons_of_mem _ hy)⟩
theorem sam_lst {n : Nat} {xs : List D} (h : ∀ x ∈ xs, sam n x = true) (hl : xs.length ≤ 100000) : sam (n + 1) (.lst xs) = true := by
  simp only [sam, Bool.and_eq_true, decide_eq_true_eq]
  exact ⟨samA_of h, hl⟩
theorem sam_tup {n : Nat} {xs : List D} (h : ∀ x ∈ xs, sam n x = true) (hl : xs.length ≤ 100000) : sam (n + 1) (.tup xs) = true := by
  simp only [sam, Bool.and_eq_true, decide_eq_true_eq]
  exact ⟨samA_of h, hl⟩
theorem sam_ints {n : Nat} {v : List Int} (hl : v.length ≤ 100000) : sam (n + 1) (.lst (iL v)) = true := sam_lst (fun x hx => by
  obtain ⟨y, _, rfl⟩ := List.mem_map.mp hx
  simp [sam]) (by rw [iL_len]; exact hl)

structure Txt (K : PySem.W.Frag) (mg : Str → Option Value) where
  f_plus : Addr
  fd_plus : FuncData
  F_plus : Fun K "plus" "plus" s_plus f_plus fd_plus
  g_plus : mg "plus" = some (.ref f_plus)
  k_plus : PySem.W.keepIn K (.ref f_plus) = true
  b_plus : Kb K fd_plus ["one", "other"] 2 [] (fun vs _ => vs)
  f_minus : Addr
  fd_minus : FuncData
  F_minus : Fun K "minus" "minus" s_minus f_minus fd_minus
  g_minus : mg "minus" = some (.ref f_minus)
  k_minus : PySem.W.keepIn K (.ref f_minus) = true
  b_minus : Kb K fd_minus ["one", "other"] 2 [] (fun vs _ => vs)
  f_times : Addr
  fd_times : FuncData
  F_times : Fun K "times" "times" s_times f_times fd_times
  g_times : mg "times" = some (.ref f_times)
  k_times : PySem.W.keepIn K (.ref f_times) = true
  b_times : Kb K fd_times ["one", "other"] 2 [] (fun vs _ => vs)
  f_power : Addr
  fd_power : FuncData
  F_power : Fun K "power" "power" s_power f_power fd_power
  g_power : mg "power" = some (.ref f_power)
  k_power : PySem.W.keepIn K (.ref f_power) = true
  b_power : Kb K fd_power ["one", "many"] 2 [] (fun vs _ => vs)
  f_over : Addr
  fd_over : FuncData
  F_over : Fun K "over" "over" s_over f_over fd_over
  g_over : mg "over" = some (.ref f_over)
  k_over : PySem.W.keepIn K (.ref f_over) = true
  b_over : Kb K fd_over ["one", "other"] 2 [] (fun vs _ => vs)
  f__law_purse : Addr
  fd__law_purse : FuncData
  F__law_purse : Fun K "_law_purse" "_law_purse" s__law_purse f__law_purse fd__law_purse
  g__law_purse : mg "_law_purse" = some (.ref f__law_purse)
  k__law_purse : PySem.W.keepIn K (.ref f__law_purse) = true
  b__law_purse : Kb K fd__law_purse ["script", "k"] 2 [] (fun vs _ => vs)
  f__law_drawn : Addr
  fd__law_drawn : FuncData
  F__law_drawn : Fun K "_law_drawn" "_law_drawn" s__law_drawn f__law_drawn fd__law_drawn
  g__law_drawn : mg "_law_drawn" = some (.ref f__law_drawn)
  k__law_drawn : PySem.W.keepIn K (.ref f__law_drawn) = true
  b__law_drawn : Kb K fd__law_drawn ["purse", "many"] 2 [] (fun vs _ => vs)
  f__law_number : Addr
  fd__law_number : FuncData
  F__law_number : Fun K "_law_number" "_law_number" s__law_number f__law_number fd__law_number
  g__law_number : mg "_law_number" = some (.ref f__law_number)
  k__law_number : PySem.W.keepIn K (.ref f__law_number) = true
  b__law_number : Kb K fd__law_number ["purse"] 1 [] (fun vs _ => vs)
  f__law_whole : Addr
  fd__law_whole : FuncData
  F__law_whole : Fun K "_law_whole" "_law_whole" s__law_whole f__law_whole fd__law_whole
  g__law_whole : mg "_law_whole" = some (.ref f__law_whole)
  k__law_whole : PySem.W.keepIn K (.ref f__law_whole) = true
  b__law_whole : Kb K fd__law_whole ["found"] 1 [] (fun vs _ => vs)
  f__law_same : Addr
  fd__law_same : FuncData
  F__law_same : Fun K "_law_same" "_law_same" s__law_same f__law_same fd__law_same
  g__law_same : mg "_law_same" = some (.ref f__law_same)
  k__law_same : PySem.W.keepIn K (.ref f__law_same) = true
  b__law_same : Kb K fd__law_same ["found", "due"] 2 [] (fun vs _ => vs)
  f__law_classes : Addr
  fd__law_classes : FuncData
  F__law_classes : Fun K "_law_classes" "_law_classes" s__law_classes f__law_classes fd__law_classes
  g__law_classes : mg "_law_classes" = some (.ref f__law_classes)
  k__law_classes : PySem.W.keepIn K (.ref f__law_classes) = true
  b__law_classes : Kb K fd__law_classes ["caught"] 1 [] (fun vs _ => vs)
  f__law_quotient : Addr
  fd__law_quotient : FuncData
  F__law_quotient : Fun K "_law_quotient" "_law_quotient" s__law_quotient f__law_quotient fd__law_quotient
  g__law_quotient : mg "_law_quotient" = some (.ref f__law_quotient)
  k__law_quotient : PySem.W.keepIn K (.ref f__law_quotient) = true
  b__law_quotient : Kb K fd__law_quotient ["one", "other"] 2 [] (fun vs _ => vs)
  f_law : Addr
  fd_law : FuncData
  F_law : Fun K "law" "law" s_law f_law fd_law
  g_law : mg "law" = some (.ref f_law)
  k_law : PySem.W.keepIn K (.ref f_law) = true
  b_law : Kb K fd_law ["script"] 1 [] (fun vs _ => vs)
  t_PRIME : Tok
  c_PRIME : mg "PRIME" = some (.int 97 t_PRIME)
  t_Dark : Addr
  g_Dark : mg "Dark" = some (.ref t_Dark)
  yN_Dark : PySem.W.kitOne K (.type "NoneType") (.ref t_Dark) = some false
  t_Down : Addr
  g_Down : mg "Down" = some (.ref t_Down)
  yN_Down : PySem.W.kitOne K (.type "NoneType") (.ref t_Down) = some false
  t_Hidden : Addr
  g_Hidden : mg "Hidden" = some (.ref t_Hidden)
  yN_Hidden : PySem.W.kitOne K (.type "NoneType") (.ref t_Hidden) = some false
  t_Lost : Addr
  g_Lost : mg "Lost" = some (.ref t_Lost)
  yN_Lost : PySem.W.kitOne K (.type "NoneType") (.ref t_Lost) = some false
  t_NoBook : Addr
  g_NoBook : mg "NoBook" = some (.ref t_NoBook)
  yN_NoBook : PySem.W.kitOne K (.type "NoneType") (.ref t_NoBook) = some false
  t_NoCard : Addr
  g_NoCard : mg "NoCard" = some (.ref t_NoCard)
  yN_NoCard : PySem.W.kitOne K (.type "NoneType") (.ref t_NoCard) = some false
  t_NoHomes : Addr
  g_NoHomes : mg "NoHomes" = some (.ref t_NoHomes)
  yN_NoHomes : PySem.W.kitOne K (.type "NoneType") (.ref t_NoHomes) = some false
  t_NoHour : Addr
  g_NoHour : mg "NoHour" = some (.ref t_NoHour)
  yN_NoHour : PySem.W.kitOne K (.type "NoneType") (.ref t_NoHour) = some false
  t_NoHouse : Addr
  g_NoHouse : mg "NoHouse" = some (.ref t_NoHouse)
  yN_NoHouse : PySem.W.kitOne K (.type "NoneType") (.ref t_NoHouse) = some false
  t_NoLevel : Addr
  g_NoLevel : mg "NoLevel" = some (.ref t_NoLevel)
  yN_NoLevel : PySem.W.kitOne K (.type "NoneType") (.ref t_NoLevel) = some false
  t_NoMoves : Addr
  g_NoMoves : mg "NoMoves" = some (.ref t_NoMoves)
  yN_NoMoves : PySem.W.kitOne K (.type "NoneType") (.ref t_NoMoves) = some false
  t_NoName : Addr
  g_NoName : mg "NoName" = some (.ref t_NoName)
  yN_NoName : PySem.W.kitOne K (.type "NoneType") (.ref t_NoName) = some false
  t_NoObject : Addr
  g_NoObject : mg "NoObject" = some (.ref t_NoObject)
  yN_NoObject : PySem.W.kitOne K (.type "NoneType") (.ref t_NoObject) = some false
  t_NoOrder : Addr
  g_NoOrder : mg "NoOrder" = some (.ref t_NoOrder)
  yN_NoOrder : PySem.W.kitOne K (.type "NoneType") (.ref t_NoOrder) = some false
  t_NoPlace : Addr
  g_NoPlace : mg "NoPlace" = some (.ref t_NoPlace)
  yN_NoPlace : PySem.W.kitOne K (.type "NoneType") (.ref t_NoPlace) = some false
  t_NoRest : Addr
  g_NoRest : mg "NoRest" = some (.ref t_NoRest)
  yN_NoRest : PySem.W.kitOne K (.type "NoneType") (.ref t_NoRest) = some false
  t_NoRoom : Addr
  g_NoRoom : mg "NoRoom" = some (.ref t_NoRoom)
  yN_NoRoom : PySem.W.kitOne K (.type "NoneType") (.ref t_NoRoom) = some false
  t_NoRow : Addr
  g_NoRow : mg "NoRow" = some (.ref t_NoRow)
  yN_NoRow : PySem.W.kitOne K (.type "NoneType") (.ref t_NoRow) = some false
  t_NoShape : Addr
  g_NoShape : mg "NoShape" = some (.ref t_NoShape)
  yN_NoShape : PySem.W.kitOne K (.type "NoneType") (.ref t_NoShape) = some false
  t_NoText : Addr
  g_NoText : mg "NoText" = some (.ref t_NoText)
  yN_NoText : PySem.W.kitOne K (.type "NoneType") (.ref t_NoText) = some false
  t_NoTicket : Addr
  g_NoTicket : mg "NoTicket" = some (.ref t_NoTicket)
  yN_NoTicket : PySem.W.kitOne K (.type "NoneType") (.ref t_NoTicket) = some false
  t_NoWeight : Addr
  g_NoWeight : mg "NoWeight" = some (.ref t_NoWeight)
  yN_NoWeight : PySem.W.kitOne K (.type "NoneType") (.ref t_NoWeight) = some false
  t_NotAll : Addr
  g_NotAll : mg "NotAll" = some (.ref t_NotAll)
  yN_NotAll : PySem.W.kitOne K (.type "NoneType") (.ref t_NotAll) = some false
  t_NotEmpty : Addr
  g_NotEmpty : mg "NotEmpty" = some (.ref t_NotEmpty)
  yN_NotEmpty : PySem.W.kitOne K (.type "NoneType") (.ref t_NotEmpty) = some false
  t_SherdError : Addr
  g_SherdError : mg "SherdError" = some (.ref t_SherdError)
  yN_SherdError : PySem.W.kitOne K (.type "NoneType") (.ref t_SherdError) = some false
  t_Stale : Addr
  g_Stale : mg "Stale" = some (.ref t_Stale)
  yN_Stale : PySem.W.kitOne K (.type "NoneType") (.ref t_Stale) = some false
  t_Stopped : Addr
  g_Stopped : mg "Stopped" = some (.ref t_Stopped)
  yN_Stopped : PySem.W.kitOne K (.type "NoneType") (.ref t_Stopped) = some false
  t_Taken : Addr
  g_Taken : mg "Taken" = some (.ref t_Taken)
  yN_Taken : PySem.W.kitOne K (.type "NoneType") (.ref t_Taken) = some false
  fI_NoRest : Addr
  fdI_NoRest : FuncData
  o_NoRest : OexC K t_NoRest
  e_NoRest : ExcC K t_NoRest
  n_NoRest : PySem.W.findIn K (.ref t_NoRest) "number" = some none
  i_NoRest : PySem.W.findIn K (.ref t_NoRest) "__init__" = some (some (.ref fI_NoRest))
  tI_NoRest : PySem.W.typeIn K (.ref fI_NoRest) = some (.type "function")
  FI_NoRest : Fun K "__init__" "NoRest.__init__" s_NoRest_init fI_NoRest fdI_NoRest
  bI_NoRest : Binds K fdI_NoRest ["self", "number"] []
  m_NoRest_SherdError : PySem.W.exmOne K (.ref t_NoRest) (.ref t_SherdError) = some true
  y_NoRest_Dark : PySem.W.kitOne K (.ref t_NoRest) (.ref t_Dark) = some false
  y_NoRest_Down : PySem.W.kitOne K (.ref t_NoRest) (.ref t_Down) = some false
  y_NoRest_Hidden : PySem.W.kitOne K (.ref t_NoRest) (.ref t_Hidden) = some false
  y_NoRest_Lost : PySem.W.kitOne K (.ref t_NoRest) (.ref t_Lost) = some false
  y_NoRest_NoBook : PySem.W.kitOne K (.ref t_NoRest) (.ref t_NoBook) = some false
  y_NoRest_NoCard : PySem.W.kitOne K (.ref t_NoRest) (.ref t_NoCard) = some false
  y_NoRest_NoHomes : PySem.W.kitOne K (.ref t_NoRest) (.ref t_NoHomes) = some false
  y_NoRest_NoHour : PySem.W.kitOne K (.ref t_NoRest) (.ref t_NoHour) = some false
  y_NoRest_NoHouse : PySem.W.kitOne K (.ref t_NoRest) (.ref t_NoHouse) = some false
  y_NoRest_NoLevel : PySem.W.kitOne K (.ref t_NoRest) (.ref t_NoLevel) = some false
  y_NoRest_NoMoves : PySem.W.kitOne K (.ref t_NoRest) (.ref t_NoMoves) = some false
  y_NoRest_NoName : PySem.W.kitOne K (.ref t_NoRest) (.ref t_NoName) = some false
  y_NoRest_NoObject : PySem.W.kitOne K (.ref t_NoRest) (.ref t_NoObject) = some false
  y_NoRest_NoOrder : PySem.W.kitOne K (.ref t_NoRest) (.ref t_NoOrder) = some false
  y_NoRest_NoPlace : PySem.W.kitOne K (.ref t_NoRest) (.ref t_NoPlace) = some false
  y_NoRest_NoRest : PySem.W.kitOne K (.ref t_NoRest) (.ref t_NoRest) = some true
  y_NoRest_NoRoom : PySem.W.kitOne K (.ref t_NoRest) (.ref t_NoRoom) = some false
  y_NoRest_NoRow : PySem.W.kitOne K (.ref t_NoRest) (.ref t_NoRow) = some false
  y_NoRest_NoShape : PySem.W.kitOne K (.ref t_NoRest) (.ref t_NoShape) = some false
  y_NoRest_NoText : PySem.W.kitOne K (.ref t_NoRest) (.ref t_NoText) = some false
  y_NoRest_NoTicket : PySem.W.kitOne K (.ref t_NoRest) (.ref t_NoTicket) = some false
  y_NoRest_NoWeight : PySem.W.kitOne K (.ref t_NoRest) (.ref t_NoWeight) = some false
  y_NoRest_NotAll : PySem.W.kitOne K (.ref t_NoRest) (.ref t_NotAll) = some false
  y_NoRest_NotEmpty : PySem.W.kitOne K (.ref t_NoRest) (.ref t_NotEmpty) = some false
  y_NoRest_SherdError : PySem.W.kitOne K (.ref t_NoRest) (.ref t_SherdError) = some true
  y_NoRest_Stale : PySem.W.kitOne K (.ref t_NoRest) (.ref t_Stale) = some false
  y_NoRest_Stopped : PySem.W.kitOne K (.ref t_NoRest) (.ref t_Stopped) = some false
  y_NoRest_Taken : PySem.W.kitOne K (.ref t_NoRest) (.ref t_Taken) = some false
  y_NoRest_ValueError : PySem.W.kitOne K (.ref t_NoRest) (.type "ValueError") = some true
  b_ValueError : mg "ValueError" = none
  b_all : mg "all" = none
  b_bool : mg "bool" = none
  b_divmod : mg "divmod" = none
  b_int : mg "int" = none
  b_isinstance : mg "isinstance" = none
  b_len : mg "len" = none
  b_list : mg "list" = none
  b_max : mg "max" = none
  b_min : mg "min" = none
  b_range : mg "range" = none
  b_tuple : mg "tuple" = none
section
variable {P : Program} {w : World} {K : PySem.W.Frag} {mg : Str → Option Value} {base : Heap}
theorem x_NoRest (T : Txt K mg) : Ex1 P w K mg base T.t_NoRest T.fI_NoRest T.fdI_NoRest "number" := ⟨T.o_NoRest, T.n_NoRest, T.i_NoRest, T.tI_NoRest, T.bI_NoRest, init1_fn T.FI_NoRest sc_NoRest_init fun cdv A outer s H E => pss_one (ps_ost (pv 0) (pv 1))⟩
def fd_plus : Fd := { n := 2, dom := fun ds => ∃ i j : Int, ds = [.int i, .int j], res := fun ds d => ∃ i j : Int, ds = [.int i, .int j] ∧ d = .int ((i + j) % 97) }
theorem cl_plus {i j : Int} : Cal fd_plus [.int i, .int j] (.int ((i + j) % 97)) := ⟨rfl, ⟨i, j, rfl⟩, rfl, fun d ⟨i', n', e, q⟩ => by cases e; exact q, fun _ _ q => q⟩
local macro_rules | `(tactic| walk_at "cal") => `(tactic| exact cl_plus)
theorem ok_plus (T : Txt K mg) : FnOk P w K mg base (L2.CX P w) 1 T.f_plus T.fd_plus ["one", "other"] (SpD K fd_plus) := by
  refine fn_data (dvs := []) (kws := []) (N := N_plus) (.inr T.F_plus) sc_plus rfl (fun cdv A outer s H E hr tk => ?_)
  refine ⟨_, (pss_one (ps_ret (pe_op g_mod (pe_op (g_add (K := K) rfl) (pv 0) (pv 1)) (pe_glob (v := .int 97) rfl T.c_PRIME ⟨_, rfl⟩)))), fun ds N' b hl hd acc => ?_⟩
  obtain ⟨i, j, rfl⟩ := hd
  refine w_ret (by walk_at "ev") ?_
  exact ⟨by walk_at "b", i, j, rfl, rfl⟩

def fd_minus : Fd := { n := 2, dom := fun ds => ∃ i j : Int, ds = [.int i, .int j], res := fun ds d => ∃ i j : Int, ds = [.int i, .int j] ∧ d = .int ((i - j) % 97) }
theorem cl_minus {i j : Int} : Cal fd_minus [.int i, .int j] (.int ((i - j) % 97)) := ⟨rfl, ⟨i, j, rfl⟩, rfl, fun d ⟨i', n', e, q⟩ => by cases e; exact q, fun _ _ q => q⟩
local macro_rules | `(tactic| walk_at "cal") => `(tactic| exact cl_minus)
theorem ok_minus (T : Txt K mg) : FnOk P w K mg base (L2.CX P w) 1 T.f_minus T.fd_minus ["one", "other"] (SpD K fd_minus) := by
  refine fn_data (dvs := []) (kws := []) (N := N_minus) (.inr T.F_minus) sc_minus rfl (fun cdv A outer s H E hr tk => ?_)
  refine ⟨_, (pss_one (ps_ret (pe_op g_mod (pe_op g_sub (pv 0) (pv 1)) (pe_glob (v := .int 97) rfl T.c_PRIME ⟨_, rfl⟩)))), fun ds N' b hl hd acc => ?_⟩
  obtain ⟨i, j, rfl⟩ := hd
  refine w_ret (by walk_at "ev") ?_
  exact ⟨by walk_at "b", i, j, rfl, rfl⟩

def fd_times : Fd := { n := 2, dom := fun ds => ∃ i j : Int, ds = [.int i, .int j] ∧ CMulW i j, res := fun ds d => ∃ i j : Int, ds = [.int i, .int j] ∧ d = .int ((i * j) % 97) }
theorem cl_times {i j : Int} (h : CMulW i j) : Cal fd_times [.int i, .int j] (.int (i * j % 97)) := ⟨rfl, ⟨i, j, rfl, h⟩, rfl, fun d ⟨i', n', e, q⟩ => by cases e; exact q, fun _ _ q => q⟩
local macro_rules | `(tactic| walk_at "cal") => `(tactic| (apply cl_times; first | assumption | walk_at "mul"))
theorem ok_times (T : Txt K mg) : FnOk P w K mg base (L2.CX P w) 1 T.f_times T.fd_times ["one", "other"] (SpD K fd_times) := by
  refine fn_data (dvs := []) (kws := []) (N := N_times) (.inr T.F_times) sc_times rfl (fun cdv A outer s H E hr tk => ?_)
  refine ⟨_, (pss_one (ps_ret (pe_op g_mod (pe_op g_mul (pv 0) (pv 1)) (pe_glob (v := .int 97) rfl T.c_PRIME ⟨_, rfl⟩)))), fun ds N' b hl hd acc => ?_⟩
  obtain ⟨i, j, rfl, hm⟩ := hd
  refine w_ret (by walk_at "ev") ?_
  exact ⟨by walk_at "b", i, j, rfl, rfl⟩

def pw (i : Int) (n : Nat) : Int := i ^ n % 97
theorem pw_step (f bs n r : Int) (h0 : 0 < n) (h : (f * bs ^ n.toNat) % 97 = r) :
    ((if decide (n % 2 = 1) = true then f * bs % 97 else f) * (bs * bs % 97) ^ (n / 2).toNat) % 97 = r := by
  have e : n.toNat = 2 * (n / 2).toNat + (n % 2).toNat := by omega
  have hp : ∀ (k : Nat) (x : Int), ((x * x % 97) ^ k) % 97 = (x ^ (2 * k)) % 97 := fun k x => by
    have h1 : ∀ (y : Int) (k : Nat), ((y % 97) ^ k) % 97 = (y ^ k) % 97 := fun y k => by
      induction k with
      | zero => rw [Int.pow_zero, Int.pow_zero]
      | succ k ih => rw [Int.pow_succ, Int.pow_succ, Int.mul_emod, ih, Int.emod_emod_of_dvd _ (Int.dvd_refl 97), ← Int.mul_emod]
    rw [h1, Int.pow_mul]
    congr 1
    congr 1
    rw [Int.pow_succ, Int.pow_succ, Int.pow_zero, Int.one_mul]
  rw [← h, e]
  split
  · rename_i hc
    have hc := of_decide_eq_true hc
    rw [Int.mul_emod, hp, Int.emod_emod_of_dvd _ (Int.dvd_refl 97), ← Int.mul_emod, hc, show (1 : Int).toNat = 1 from rfl, Int.pow_succ]
    congr 1
    rw [Int.mul_assoc, Int.mul_comm bs]
  · rename_i hc
    have hc : ¬ n % 2 = 1 := fun z => hc (decide_eq_true z)
    have h0 : n % 2 = 0 := by omega
    rw [Int.mul_emod, hp, ← Int.mul_emod, h0, show (0 : Int).toNat = 0 from rfl, Nat.add_zero]
def fd_power : Fd := { n := 2, dom := fun ds => ∃ i n : Int, ds = [.int i, .int n] ∧ 0 ≤ n, res := fun ds d => ∃ i n : Int, ds = [.int i, .int n] ∧ d = .int (pw i n.toNat) }
theorem cl_power {i n : Int} (h : 0 ≤ n) : Cal fd_power [.int i, .int n] (.int (pw i n.toNat)) := ⟨rfl, ⟨i, n, rfl, h⟩, rfl, fun d ⟨i', n', e, q⟩ => by cases e; exact q, fun _ _ q => q⟩
local macro_rules | `(tactic| walk_at "cal") => `(tactic| (apply cl_power; first | omega | decide | skip))
theorem ok_power (T : Txt K mg) : FnOk P w K mg base (L2.CX P w) 1 T.f_power T.fd_power ["one", "many"] (SpD K fd_power) := by
  refine fn_data (dvs := []) (kws := []) (N := N_power) (.inr T.F_power) sc_power rfl (fun cdv A outer s H E hr tk => ?_)
  refine ⟨_, (pss_cons (ps_set (i := 2) sc_power.nd rfl (Or.inl rfl) pe_int)
      (pss_cons (ps_set (i := 3) sc_power.nd rfl (Or.inl rfl) (pe_op g_mod (pv 0) (pe_glob (v := .int 97) rfl T.c_PRIME ⟨_, rfl⟩)))
      (pss_cons (ps_while (passes_of rfl) (pt_cmpR g_gt (pv 1) pe_int (nomark _)) (pss_cons (ps_asg (pe_callB g_divmod rfl T.b_divmod boot_divmod (pa_cons (pv 1) (pa_cons pe_int pa_nil))) (g_tup (K := K) (n := 2) rfl rfl (pgs_cons (pg_name (i := 1) sc_power.nd rfl (Or.inl rfl)) (pgs_cons (pg_name (i := 4) sc_power.nd rfl (Or.inl rfl)) pgs_nil))))
      (pss_cons (ps_if (pt_cmpR (g_eq (K := K) rfl hr) (pv 4) pe_int (nomark _)) (pss_one (ps_set (i := 2) sc_power.nd rfl (Or.inl rfl) (pe_op g_mod (pe_op g_mul (pv 2) (pv 3)) (pe_glob (v := .int 97) rfl T.c_PRIME ⟨_, rfl⟩)))) pss_nil)
      (pss_one (ps_set (i := 3) sc_power.nd rfl (Or.inl rfl) (pe_op g_mod (pe_op g_mul (pv 3) (pv 3)) (pe_glob (v := .int 97) rfl T.c_PRIME ⟨_, rfl⟩)))))))
      (pss_one (ps_ret (pv 2)))))), fun ds N' b hl hd acc => ?_⟩
  obtain ⟨i, n, rfl, hn⟩ := hd
  refine w_seq (w_asg (by walk_at "ev") (w_seq (w_asg (by walk_at "ev") (w_seq ?_))))
  refine w_while (fun m ds b' => ∃ (n' f bs : Int) (so : Sd), ds = [.dat (.int i), .dat (.int n'), .dat (.int f), .dat (.int bs), so] ∧ 0 ≤ n' ∧ m = n'.toNat ∧ (0 ≤ f ∧ f < 97) ∧ (0 ≤ bs ∧ bs < 97) ∧ (f * bs ^ n'.toNat) % 97 = pw i n.toNat ∧ b ≤ b') n.toNat ⟨n, 1, i % 97, .un, rfl, hn, rfl, by omega, by omega, ?_, by walk_at "b"⟩ ?_
  · have h1 : ∀ (y : Int) (k : Nat), ((y % 97) ^ k) % 97 = (y ^ k) % 97 := fun y k => by
      induction k with
      | zero => rw [Int.pow_zero, Int.pow_zero]
      | succ k ih => rw [Int.pow_succ, Int.pow_succ, Int.mul_emod, ih, Int.emod_emod_of_dvd _ (Int.dvd_refl 97), ← Int.mul_emod]
    rw [Int.one_mul]
    exact h1 _ _
  rintro m ds' b' ⟨n', f, bs, so, rfl, h0, rfl, hf, hb, he, hbb⟩
  refine ⟨_, by walk_at "ev", fun hc => ?_, fun hc => ?_⟩
  · have hc := of_decide_eq_true hc
    have st := pw_step f bs n' _ hc he
    refine w_seq (w_tg (by walk_at "ev") (by walk_at "tg") ?_)
    refine w_seq (w_if (by walk_at "ev") (fun h => ?_) (fun h => ?_))
    · refine w_asg (by walk_at "ev") ?_
      refine w_asg (by walk_at "ev") ?_
      rw [if_pos h] at st
      exact ⟨(n' / 2).toNat, by omega, n' / 2, _, _, _, rfl, by omega, rfl, by omega, by omega, st, hbb⟩
    · refine w_next ?_
      refine w_asg (by walk_at "ev") ?_
      rw [if_neg (by rw [h]; exact Bool.false_ne_true)] at st
      exact ⟨(n' / 2).toNat, by omega, n' / 2, _, _, _, rfl, by omega, rfl, by omega, by omega, st, hbb⟩
  · have hc := of_decide_eq_false hc
    have e : n' = 0 := by omega
    subst e
    refine w_ret (by walk_at "ev") ⟨hbb, i, n, rfl, ?_⟩
    rw [show (0 : Int).toNat = 0 from rfl, Int.pow_zero, Int.mul_one] at he
    rw [← he]
    congr 1
    omega

--OPT fdarg T.t_NoRest
def fd_over (C : Addr) : Fd := { n := 2, dom := fun ds => ∃ i j : Int, ds = [.int i, .int j] ∧ i.natAbs < 2 ^ 250, res := fun ds d => ∃ i j : Int, ds = [.int i, .int j] ∧ j % 97 ≠ 0 ∧ d = .int (i * pw j 95 % 97), exn := fun ds X fs => ∃ i j : Int, ds = [.int i, .int j] ∧ j % 97 = 0 ∧ X = C ∧ fs = [(("number" : Str), D.int j)] }
theorem pw_lt (i : Int) (n : Nat) : (pw i n).natAbs < 2 ^ 7 := by
  unfold pw
  omega
theorem ok_over (T : Txt K mg) : FnOk P w K mg base (L2.CX P w) 3 T.f_over T.fd_over ["one", "other"] (SpD K (fd_over T.t_NoRest)) := by
  refine fn_data (dvs := []) (kws := []) (N := N_over) (.inr T.F_over) sc_over rfl (fun cdv A outer s H E hr tk => ?_)
  refine ⟨_, (pss_cons (ps_if (pt_cmpR (g_eq (K := K) rfl hr) (pe_op g_mod (pv 1) (pe_glob (v := .int 97) rfl T.c_PRIME ⟨_, rfl⟩)) pe_int (nomark _)) (pss_one (g_raise1 (K := K) rfl rfl (x_NoRest T) (hr.mono (by decide)) tk (by rfl) T.g_NoRest (pv 1))) pss_nil)
      (pss_one (ps_ret (pe_op g_mod (pe_op g_mul (pv 0) (pe_cl (m := 0) (ok_power T) (hr.mono (by decide)) rfl T.g_power T.k_power T.b_power (passD tk) (pa_cons (pv 1) (pa_cons (pe_op g_sub (pe_glob (v := .int 97) rfl T.c_PRIME ⟨_, rfl⟩) pe_int) pa_nil)) pk_nil)) (pe_glob (v := .int 97) rfl T.c_PRIME ⟨_, rfl⟩))))), fun ds N' b hl hd acc => ?_⟩
  obtain ⟨i, j, rfl, hi⟩ := hd
  have hp := pw_lt j (97 - 2 : Int).toNat
  refine w_seq (w_if (by walk_at "ev") (fun h => ?_) (fun h => w_next ?_))
  · exact w_raise1 acc T.o_NoRest T.n_NoRest (by walk_at "ev") ⟨by walk_at "b", i, j, rfl, of_decide_eq_true h, rfl, rfl⟩
  · refine w_ret (by walk_at "ev") ?_
    exact ⟨by walk_at "b", i, j, rfl, of_decide_eq_false h, rfl⟩

--OPT own 1
theorem ok__law_purse (T : Txt K mg) : FnOk P w K mg base (L2.CX P w) 1 T.f__law_purse T.fd__law_purse ["script", "k"] (SpD K fdMake) := by
  refine make_fn (N := N__law_purse) T.F__law_purse sc__law_purse rfl (fun cdv A outer s H E hr tk => ?_)
  refine ⟨_, (pss_cons (ps_set (i := 2) sc__law_purse.nd rfl (Or.inl rfl) pe_int)
      (pss_cons (ps_if (pt_cmpR g_lt (pv 1) (pe_callB (g_len (K := K) rfl) rfl T.b_len boot_len (pa_cons (pv 0) pa_nil)) (nomark _)) (pss_one (ps_set (i := 2) sc__law_purse.nd rfl (Or.inl rfl) (pe_ix (g_ix (K := K) rfl hr) (pv 0) (pv 1) (fun _ _ => rfl)))) pss_nil)
      (pss_one (ps_ret (pe_lst (pa_cons (pe_callB (g_max rfl) rfl T.b_max boot_max (pa_cons pe_int (pa_cons (pe_op g_sub (pv 2) (pe_op g_pow pe_int pe_int)) pa_nil))) (pa_cons (pe_op (g_add (K := K) rfl) (pe_op g_mod (pv 2) (pe_op (g_add (K := K) rfl) (pe_op g_pow pe_int pe_int) pe_int)) (pe_op g_mul pe_int (pv 1))) (pa_cons pe_int pa_nil)))))))), fun M0 ns k b hk0 hk1 => ?_⟩
  have key : ∀ c : Int, PGood 0 (max 0 (c - 10 ^ 18)) (c % (10 ^ 60 + 7) + 611953 * k) 0 := fun c => ⟨Int.le_refl _, Int.le_refl _, by
    have h1 := Int.emod_nonneg c (b := 10 ^ 60 + 7) (by decide)
    have h2 := Int.emod_lt_of_pos c (b := 10 ^ 60 + 7) (by decide)
    omega⟩
  refine w_seq (w_asg (by walk_at "ev") (w_seq (w_if (by walk_at "ev") (fun h => ?_) (fun h => ?_))))
  · have hk := of_decide_eq_true h
    have hg : k.toNat < ns.length := by omega
    refine w_asg (by walk_at "ev"; exact atI_nn hk0 (List.getElem?_eq_getElem hg)) ?_
    refine w_ret (by walk_at "ev") ?_
    exact ⟨Nat.le_refl _, _, _, rfl, key _⟩
  · refine w_next ?_
    refine w_ret (by walk_at "ev") ?_
    exact ⟨Nat.le_refl _, _, _, rfl, key _⟩

--OPT own 1
theorem ok__law_drawn (T : Txt K mg) : FnOk P w K mg base (L2.CX P w) 1 T.f__law_drawn T.fd__law_drawn ["purse", "many"] (SpD K fdDraw) := by
  refine draw_fn (N := N__law_drawn) T.F__law_drawn sc__law_drawn rfl (fun cdv A outer s H E hr tk => ?_)
  refine ⟨_, (pss_cons (ps_if (pt_cmpR g_gt (pe_ix (g_ix (K := K) rfl hr) (pv 0) pe_int (fun _ _ => rfl)) pe_int (nomark _)) (pss_cons (ps_set (i := 2) sc__law_drawn.nd rfl (Or.inl rfl) (pe_op g_mod (pe_ix (g_ix (K := K) rfl hr) (pv 0) pe_int (fun _ _ => rfl)) (pv 1)))
      (pss_cons (ps_asg (pe_op g_div (pe_ix (g_ix (K := K) rfl hr) (pv 0) pe_int (fun _ _ => rfl)) (pv 1)) (pg_sub (pv 0) pe_int (g_set hr)))
      (pss_one (ps_ret (pv 2))))) pss_nil)
      (pss_cons (ps_set (i := 3) sc__law_drawn.nd rfl (Or.inl rfl) (pe_op (g_add (K := K) rfl) (pe_ix (g_ix (K := K) rfl hr) (pv 0) pe_int (fun _ _ => rfl)) pe_int))
      (pss_cons (ps_asg (pv 3) (pg_sub (pv 0) pe_int (g_set hr)))
      (pss_cons (ps_set (i := 4) sc__law_drawn.nd rfl (Or.inl rfl) (pe_op g_mod (pe_op g_pow (pe_op (g_add (K := K) rfl) (pe_op (g_add (K := K) rfl) (pe_ix (g_ix (K := K) rfl hr) (pv 0) pe_int (fun _ _ => rfl)) (pe_op g_mul (pe_op g_mul pe_int (pv 3)) (pv 3))) (pe_op g_mul pe_int (pv 3))) pe_int) (pe_op (g_add (K := K) rfl) (pe_op g_pow pe_int pe_int) pe_int)))
      (pss_cons (ps_set (i := 4) sc__law_drawn.nd rfl (Or.inl rfl) (pe_op g_mod (pe_op g_pow (pe_op (g_add (K := K) rfl) (pv 4) (pe_op g_mul pe_int (pv 3))) pe_int) (pe_op (g_add (K := K) rfl) (pe_op g_pow pe_int pe_int) pe_int)))
      (pss_one (ps_ret (pe_op g_mod (pe_op g_div (pv 4) pe_int) (pv 1))))))))), fun p x y z m n b hm0 hm1 g hn => ?_⟩
  obtain ⟨g1, g2, g3⟩ := g
  have hL : LIM = 2 ^ 60 := rfl
  refine w_seq (w_if (by walk_at "ev") (fun h => ?_) (fun h => ?_))
  · refine w_seq (w_asg (by walk_at "ev") (w_seq ?_))
    refine w_setP rfl (by walk_at "ev"; exact wide_div hm0 (b := 201) (by omega) (by decide) (by decide)) (by walk_at "ev") (by decide) (by exact (by decide : (0 : Int) < 3)) ?_
    refine w_ret (by walk_at "ev") ?_
    exact ⟨Nat.le_refl _, x % m, x / m, y, z, rfl, Int.emod_nonneg _ (by omega), Int.emod_lt_of_pos _ hm0, rfl, g1, by omega, g3⟩
  · refine w_next ?_
    refine w_seq (w_asg (by walk_at "ev") (w_seq ?_))
    refine w_setP rfl (by walk_at "ev") (by walk_at "ev") (by decide) (by exact (by decide : (2 : Int) < 3)) ?_
    have hz : (z + 1).natAbs < 2 ^ 61 := by omega
    have h1 : (15485863 * (z + 1)).natAbs < 2 ^ 85 := by omega
    have h2 : (15485863 * (z + 1) * (z + 1)).natAbs < 2 ^ 146 := wide_lt (a := 85) (b := 61) h1 hz
    have h3 : (32452843 * (z + 1)).natAbs < 2 ^ 86 := by omega
    refine w_seq (ws_asg (R := fun d => ∃ q : Int, d = .int q ∧ 0 ≤ q ∧ q < 2 ^ 60) (EvD.to (by
      walk_at "ev"
      exact cpow_small 257 (by omega) (by decide) (by decide)) ⟨_, rfl, Int.emod_nonneg _ (by decide), Int.lt_trans (Int.emod_lt_of_pos _ (by decide)) (by decide)⟩) ?_)
    rintro _ ⟨q, rfl, q0, q1⟩
    refine w_seq (w_asg (by
      walk_at "ev"
      exact cpow_small 90 (by omega) (by decide) (by decide)) ?_)
    refine w_ret (by walk_at "ev"; exact wide_div (by decide) (b := 20) (by decide) (by decide) (by decide)) ?_
    exact ⟨Nat.le_refl _, _, x, y, z + 1, rfl, Int.emod_nonneg _ (by omega), Int.emod_lt_of_pos _ hm0, rfl, by omega, by omega, g3⟩

def fd__law_number : Fd := { n := 1, dom := fun ds => ds = [.purse], cost := fun _ => 6, res := fun _ d => ∃ i : Int, d = .int i ∧ i.natAbs < 2 ^ 220 }
theorem cas__law_number : Cas fd__law_number [.purse] 6 (fun d => ∃ i : Int, d = .int i ∧ i.natAbs < 2 ^ 220) := ⟨rfl, rfl, Nat.le_refl _, fun d h => h, fun _ _ q => q⟩
theorem ok__law_number (T : Txt K mg) : FnOk P w K mg base (L2.CX P w) 2 T.f__law_number T.fd__law_number ["purse"] (SpD K fd__law_number) := by
  refine fn_data (dvs := []) (kws := []) (N := N__law_number) (.inr T.F__law_number) sc__law_number rfl (fun cdv A outer s H E hr tk => ?_)
  refine ⟨_, (pss_cons (ps_set (i := 1) sc__law_number.nd rfl (Or.inl rfl) (pe_cl (m := 0) (ok__law_drawn T) (hr.mono (by decide)) rfl T.g__law_drawn T.k__law_drawn T.b__law_drawn (passD tk) (pa_cons (pv 0) (pa_cons pe_int pa_nil)) pk_nil))
      (pss_cons (ps_set (i := 2) sc__law_number.nd rfl (Or.inl rfl) (pe_ix (g_ix (K := K) rfl hr) (pe_lst (pa_cons pe_int (pa_cons (pe_un g_neg pe_int) pa_nil))) (pe_cl (m := 0) (ok__law_drawn T) (hr.mono (by decide)) rfl T.g__law_drawn T.k__law_drawn T.b__law_drawn (passD tk) (pa_cons (pv 0) (pa_cons pe_int pa_nil)) pk_nil) (fun _ _ => rfl)))
      (pss_cons (ps_if (pt_cmpR (g_eq (K := K) rfl hr) (pv 1) pe_int (nomark _)) (pss_one (ps_ret (pe_op g_mul (pv 2) (pe_cl (m := 0) (ok__law_drawn T) (hr.mono (by decide)) rfl T.g__law_drawn T.k__law_drawn T.b__law_drawn (passD tk) (pa_cons (pv 0) (pa_cons pe_int pa_nil)) pk_nil)))) pss_nil)
      (pss_cons (ps_if (pt_cmpR (g_eq (K := K) rfl hr) (pv 1) pe_int (nomark _)) (pss_one (ps_ret (pe_op g_mul (pe_op g_mul (pv 2) pe_int) (pe_cl (m := 0) (ok__law_drawn T) (hr.mono (by decide)) rfl T.g__law_drawn T.k__law_drawn T.b__law_drawn (passD tk) (pa_cons (pv 0) (pa_cons pe_int pa_nil)) pk_nil)))) pss_nil)
      (pss_cons (ps_set (i := 3) sc__law_number.nd rfl (Or.inl rfl) pe_int)
      (pss_cons (ps_for (passes_of rfl) rfl (pi_range1 rfl T.b_range (pa_cons (pe_ix (g_ix (K := K) rfl hr) (pe_lst (pa_cons pe_int (pa_cons pe_int pa_nil))) (pe_op g_sub (pv 1) pe_int) (fun _ _ => rfl)) pa_nil)) (pg_name (i := 4) sc__law_number.nd rfl (Or.inl rfl)) (pss_one (ps_set (i := 3) sc__law_number.nd rfl (Or.inl rfl) (pe_op (g_add (K := K) rfl) (pe_op g_mul (pv 3) (pe_op g_pow pe_int pe_int)) (pe_cl (m := 0) (ok__law_drawn T) (hr.mono (by decide)) rfl T.g__law_drawn T.k__law_drawn T.b__law_drawn (passD tk) (pa_cons (pv 0) (pa_cons (pe_op g_pow pe_int pe_int) pa_nil)) pk_nil)))))
      (pss_one (ps_ret (pe_op g_mul (pv 2) (pv 3)))))))))), fun ds N' b hl hd acc => ?_⟩
  subst hd
  have hc : fd__law_number.cost [.purse] + b = b + 6 := by show 6 + b = b + 6; omega
  rw [hc]
  refine w_seq (ws_asg (evs_cal (by walk_at "ev") (cas_draw (by decide) (by decide)) rfl (b' := b + 5) (by omega)) ?_)
  rintro _ ⟨kind, rfl, k0, k1⟩
  refine w_seq (ws_asg (R := fun d => ∃ sg : Int, d = .int sg ∧ sg.natAbs ≤ 1) (b' := b + 4) ?_ ?_)
  · refine evs_op (R1 := fun x => x = .lst [.int 1, .int (-1)]) (R2' := fun _ y => ∃ i : Int, y = .int i ∧ 0 ≤ i ∧ i < 2) (b1 := b + 5) (by walk_at "ev") (fun _ _ => evs_cal (by walk_at "ev") (cas_draw (by decide) (by decide)) rfl (by omega)) ?_
    rintro _ _ rfl ⟨i, rfl, i0, i1⟩
    have hi : i = 0 ∨ i = 1 := by omega
    rcases hi with rfl | rfl
    · exact Op2.to (o_ixL rfl) ⟨1, rfl, by decide⟩
    · exact Op2.to (o_ixL rfl) ⟨-1, rfl, by decide⟩
  rintro _ ⟨sg, rfl, hs⟩
  refine w_seq (w_if (by walk_at "ev") (fun h => ?_) (fun h => w_next ?_))
  · refine ws_ret (R := fun d => ∃ i : Int, d = .int i ∧ i.natAbs < 2 ^ 220) (b' := b) ?_ (fun d h => ⟨Nat.le_refl _, h⟩)
    refine evs_op (b1 := b + 4) (R2' := fun _ y => ∃ i : Int, y = .int i ∧ 0 ≤ i ∧ i < 200) (ev_var rfl) (fun _ _ => evs_cal (by walk_at "ev") (cas_draw (by decide) (by decide)) rfl (by omega)) ?_
    rintro _ _ rfl ⟨i, rfl, i0, i1⟩
    exact Op2.to (o_mul (cmul_of 2 8 (by omega) (by omega))) ⟨_, rfl, Nat.lt_of_lt_of_le (wide_lt (a := 2) (b := 8) (by omega) (by omega)) (by decide)⟩
  refine w_seq (w_if (by walk_at "ev") (fun h => ?_) (fun h => w_next ?_))
  · refine ws_ret (R := fun d => ∃ i : Int, d = .int i ∧ i.natAbs < 2 ^ 220) (b' := b) ?_ (fun d h => ⟨Nat.le_refl _, h⟩)
    refine evs_op (b1 := b + 4) (R1 := fun x => x = .int (sg * 97)) (R2' := fun _ y => ∃ i : Int, y = .int i ∧ 0 ≤ i ∧ i < 1000) (by walk_at "ev") (fun _ _ => evs_cal (by walk_at "ev") (cas_draw (by decide) (by decide)) rfl (by omega)) ?_
    rintro _ _ rfl ⟨i, rfl, i0, i1⟩
    exact Op2.to (o_mul (cmul_of 8 10 (by omega) (by omega))) ⟨_, rfl, Nat.lt_of_lt_of_le (wide_lt (a := 8) (b := 10) (by omega) (by omega)) (by decide)⟩
  rename_i h0
  have hk : kind = 2 ∨ kind = 3 := by
    have a1 := of_decide_eq_false h
    have a2 := of_decide_eq_false h0
    omega
  obtain ⟨n, hn, hix⟩ : ∃ n : Nat, n ≤ 4 ∧ L2.atI [D.int 1, D.int 4] (kind - 2) = some (.int (n : Int)) := by
    rcases hk with rfl | rfl
    · exact ⟨1, by decide, rfl⟩
    · exact ⟨4, by decide, rfl⟩
  refine w_seq (w_asg (by walk_at "ev") (w_seq ?_))
  refine w_for allV (fun i ds b' => ∃ (f : Int) (sj : Sd), ds = [.dat .purse, .dat (.int kind), .dat (.int sg), .dat (.int f), sj] ∧ 0 ≤ f ∧ f < 10 ^ (15 * i) ∧ b' = b + (4 - i)) (ei_r1 (n := (n : Int)) (ea_cons (ev_op (by walk_at "ev") (by walk_at "ev") (o_ixL hix)) ea_nil) (by omega)) ⟨0, .un, rfl, by decide, by decide, rfl⟩ ?_ ?_
  · rintro i ds' b' hi ⟨f, sj, rfl, f0, f1, rfl⟩
    refine ⟨_, tg_name, ?_⟩
    have hi4 : i < 4 := by omega
    have f2 : f < 10 ^ 45 := Int.lt_of_lt_of_le f1 (by
      have h3 : i = 0 ∨ i = 1 ∨ i = 2 ∨ i = 3 := by omega
      rcases h3 with rfl | rfl | rfl | rfl <;> decide)
    have h15 : (10 : Int) ^ (15 * (i + 1)) = 10 ^ (15 * i) * 10 ^ 15 := by
      rw [Nat.mul_add, Int.pow_add]
    refine ws_asg (R := fun d => ∃ f' : Int, d = .int f' ∧ 0 ≤ f' ∧ f' < 10 ^ (15 * (i + 1))) (b' := b + (4 - (i + 1))) ?_ ?_
    · refine evs_op (b1 := b + (4 - i)) (R1 := fun x => x = .int (f * 10 ^ 15)) (R2' := fun _ y => ∃ j : Int, y = .int j ∧ 0 ≤ j ∧ j < 10 ^ 15) ?_ (fun _ _ => evs_cal (by walk_at "ev") (cas_draw (by decide) (by decide)) rfl (by omega)) ?_
      · refine EvD.eq (d := .int (f * 10 ^ (15 : Int).toNat)) (by walk_at "ev"; exact cmul_of 150 60 (by omega) (by decide)) rfl
      · rintro _ _ rfl ⟨j, rfl, j0, j1⟩
        refine Op2.to o_add ⟨_, rfl, ?_, ?_⟩
        · omega
        · rw [h15]
          omega
    · rintro _ ⟨f', rfl, f0', f1'⟩
      exact ⟨f', _, rfl, f0', f1', rfl⟩
  · rintro ds' b' ⟨f, sj, rfl, f0, f1, rfl⟩
    have hn' : ((n : Int)).toNat = n := by omega
    rw [hn'] at f1
    have f2 : f < 10 ^ 60 := Int.lt_of_lt_of_le f1 (by
      have h3 : n = 0 ∨ n = 1 ∨ n = 2 ∨ n = 3 ∨ n = 4 := by omega
      rcases h3 with rfl | rfl | rfl | rfl | rfl <;> decide)
    refine w_ret (by walk_at "ev") ?_
    exact ⟨Nat.le_add_right _ _, _, rfl, Nat.lt_of_lt_of_le (wide_lt (a := 2) (b := 200) (by omega) (by omega)) (by decide)⟩

def fd__law_whole : Fd := { n := 1, dom := fun ds => ∃ d : D, ds = [d] ∧ plainK d = true, res := fun ds r => ∃ d : D, ds = [d] ∧ r = .bl (isI d) }
theorem cl__law_wholeD {d : D} (h : plainK d = true) : Cal fd__law_whole [d] (.bl (isI d)) := ⟨rfl, ⟨d, rfl, h⟩, rfl, fun r ⟨d', e, q⟩ => by cases e; exact q, fun _ _ q => q⟩
theorem cl__law_whole {i : Int} : Cal fd__law_whole [.int i] (.bl true) := cl__law_wholeD (d := .int i) rfl
local macro_rules | `(tactic| walk_at "cal") => `(tactic| first | exact cl__law_whole | (apply cl__law_wholeD; first | assumption | skip))
theorem ok__law_whole (T : Txt K mg) : FnOk P w K mg base (L2.CX P w) 1 T.f__law_whole T.fd__law_whole ["found"] (SpD K fd__law_whole) := by
  refine fn_data (dvs := []) (kws := []) (N := N__law_whole) (.inr T.F__law_whole) sc__law_whole rfl (fun cdv A outer s H E hr tk => ?_)
  refine ⟨_, (pss_one (ps_ret (pe_and (pe_callB (g_isi (K := K) rfl) rfl T.b_isinstance boot_isinstance (pa_cons (pv 0) (pa_cons (pe_bltn (v := .ty "int") rfl T.b_int boot_int rfl) pa_nil))) (pe_one (pe_not (pe_callB (g_isi (K := K) rfl) rfl T.b_isinstance boot_isinstance (pa_cons (pv 0) (pa_cons (pe_bltn (v := .ty "bool") rfl T.b_bool boot_bool rfl) pa_nil)))))))), fun ds N' b hl hd acc => ?_⟩
  obtain ⟨d, rfl, hk⟩ := hd
  cases d with
  | non => exact w_ret (d := .bl false) (EvD.eq (by walk_at "ev") (by rfl)) ⟨by walk_at "b", _, rfl, rfl⟩
  | bl c => exact w_ret (d := .bl false) (EvD.eq (by walk_at "ev") (by rfl)) ⟨by walk_at "b", _, rfl, rfl⟩
  | int c => exact w_ret (d := .bl true) (EvD.eq (by walk_at "ev") (by rfl)) ⟨by walk_at "b", _, rfl, rfl⟩
  | str c => exact w_ret (d := .bl false) (EvD.eq (by walk_at "ev") (by rfl)) ⟨by walk_at "b", _, rfl, rfl⟩
  | lst c => exact w_ret (d := .bl false) (EvD.eq (by walk_at "ev") (by rfl)) ⟨by walk_at "b", _, rfl, rfl⟩
  | tup c => exact w_ret (d := .bl false) (EvD.eq (by walk_at "ev") (by rfl)) ⟨by walk_at "b", _, rfl, rfl⟩
  | dct c => exact w_ret (d := .bl false) (EvD.eq (by walk_at "ev") (by rfl)) ⟨by walk_at "b", _, rfl, rfl⟩
  | _ => cases hk

--OPT own 1
def fdS (n : Nat) : Fd := { n := 2, dom := fun ds => ∃ x, ds = [x, x] ∧ ∃ m, n = m + 1 ∧ sam m x = true, res := fun _ d => d = .bl true }
def fd__law_same : Fd := fdS 9
theorem cl__law_same {x : D} (h : sam 8 x = true) : Cal fd__law_same [x, x] (.bl true) := ⟨rfl, ⟨x, rfl, 8, rfl, h⟩, rfl, fun d h => h, fun _ _ q => q⟩
theorem cl_sameN {n : Nat} {x : D} (h : sam n x = true) : Cal (fdS (n + 1)) [x, x] (.bl true) := ⟨rfl, ⟨x, rfl, n, rfl, h⟩, rfl, fun d h => h, fun _ _ q => q⟩
theorem seq_str (s : Str) : D.eq (.str s) (.str s) = true := by
  simp [D.eq, D.py, PyData.eqv]
theorem seq_bl (s : Bool) : D.eq (.bl s) (.bl s) = true := by
  simp [D.eq, D.py, PyData.eqv]
theorem seq_non : D.eq .non .non = true := by
  simp [D.eq, D.py, PyData.eqv]
theorem sshp_bl (b : Bool) : D.shp 64 (.bl b) = true := rfl
theorem atI_at {xs : List D} {i : Nat} (hi : i < xs.length) : L2.atI xs (i : Int) = some (xs.getD i .non) := by
  refine atI_nn (by omega) ?_
  rw [Int.toNat_natCast, List.getD_eq_getElem?_getD, List.getElem?_eq_getElem hi]
  rfl
local macro_rules | `(tactic| walk_at "cal") => `(tactic| (apply cl__law_same <;> first | assumption | rfl | omega | skip))
theorem okA__law_same (T : Txt K mg) : ∀ n : Nat, FnOk P w K mg base (L2.CX P w) n T.f__law_same T.fd__law_same ["found", "due"] (SpD K (fdS n))
  | 0 => ⟨SpD.len (F := fdS 0) rfl, fun A outer s H args us vs Q E hr e0 hb r hsp => by
    obtain ⟨ds, N, b, a1, a2, a3, a4, ⟨x, e, m, h, _⟩, a6⟩ := hsp
    cases h⟩
  | n + 1 => by
    have ih := okA__law_same T n
    refine fn_data (dvs := []) (kws := []) (N := N__law_same) (.inr T.F__law_same) sc__law_same rfl (fun cdv A outer s H E hr tk => ?_)
    refine ⟨_, (pss_cons (ps_if (g_tru (K := K) rfl (pe_callB (g_isiT (K := K) rfl) rfl T.b_isinstance boot_isinstance (pa_cons (pv 1) (pa_cons (pe_tup (pa_cons (pe_bltn (v := .ty "list") rfl T.b_list boot_list rfl) (pa_cons (pe_bltn (v := .ty "tuple") rfl T.b_tuple boot_tuple rfl) pa_nil))) pa_nil))) (fun _ => rfl)) (pss_cons (ps_if (PW.pt (pw_or (pt_cmpR (g_ne (K := K) rfl hr) (pe_callB (g_isi (K := K) rfl) rfl T.b_isinstance boot_isinstance (pa_cons (pv 0) (pa_cons (pe_bltn (v := .ty "list") rfl T.b_list boot_list rfl) pa_nil))) (pe_callB (g_isi (K := K) rfl) rfl T.b_isinstance boot_isinstance (pa_cons (pv 1) (pa_cons (pe_bltn (v := .ty "list") rfl T.b_list boot_list rfl) pa_nil))) (nomark _)) (pw_or1 (pt_not (g_tru (K := K) rfl (pe_callB (g_isiT (K := K) rfl) rfl T.b_isinstance boot_isinstance (pa_cons (pv 0) (pa_cons (pe_tup (pa_cons (pe_bltn (v := .ty "list") rfl T.b_list boot_list rfl) (pa_cons (pe_bltn (v := .ty "tuple") rfl T.b_tuple boot_tuple rfl) pa_nil))) pa_nil))) (fun _ => rfl)))))) (pss_one (ps_ret pe_bl)) pss_nil)
      (pss_one (ps_ret (pe_and (pe_cmpR (g_eq (K := K) rfl hr) (pe_callB (g_len (K := K) rfl) rfl T.b_len boot_len (pa_cons (pv 0) pa_nil)) (pe_callB (g_len (K := K) rfl) rfl T.b_len boot_len (pa_cons (pv 1) pa_nil)) (nomark _)) (pe_one (pe_callB (g_all (K := K) rfl rfl) rfl T.b_all boot_all (pa_cons (pe_lc (own := [("k", 2)]) rfl sc__law_same.nd (pi_range1 rfl T.b_range (pa_cons (pe_callB (g_len (K := K) rfl) rfl T.b_len boot_len (pa_cons (pv 1) pa_nil)) pa_nil)) (blkOk_by (own := [("k", 2)]) (N := N__law_same) (sc := defScope s__law_same) (by decide +kernel)) (fun _ _ _ _ _ => (pg_name (i := 2) sc__law_same.nd rfl (Or.inl rfl))) (fun _ _ _ _ _ => pts_nil) (fun _ _ _ _ _ => (pe_cl (m := 0) ih (hr.mono (Nat.le_refl _)) rfl T.g__law_same T.k__law_same T.b__law_same pass_never (pa_cons (pe_ix (g_ix (K := K) rfl hr) (pv 0) (pv 2) (fun _ _ => rfl)) (pa_cons (pe_ix (g_ix (K := K) rfl hr) (pv 1) (pv 2) (fun _ _ => rfl)) pa_nil)) pk_nil))) pa_nil))))))) pss_nil)
      (pss_one (ps_ret (pe_and (pe_cmpR (g_eq (K := K) rfl hr) (pv 0) (pv 1) (nomark _)) (pe_one (pe_cmpR (g_eq (K := K) rfl hr) (pe_callB (g_isi (K := K) rfl) rfl T.b_isinstance boot_isinstance (pa_cons (pv 0) (pa_cons (pe_bltn (v := .ty "bool") rfl T.b_bool boot_bool rfl) pa_nil))) (pe_callB (g_isi (K := K) rfl) rfl T.b_isinstance boot_isinstance (pa_cons (pv 1) (pa_cons (pe_bltn (v := .ty "bool") rfl T.b_bool boot_bool rfl) pa_nil))) (nomark _))))))), fun ds N' b hl hd acc => ?_⟩
    obtain ⟨x, rfl, m, e, hx⟩ := hd
    cases e
    have e1 := seq_bl true
    have e2 := seq_bl false
    cases x with
    | non =>
      refine w_seq (w_if (c := false) (et_tru (ev_isi2 (by walk_at "ev") rfl (by walk_at "kb") (by walk_at "kb")) rfl) (fun h => nomatch h) (fun _ => w_next ?_))
      exact w_ret (d := .bl true) (EvD.eq (ev_andV (c := true) (EvD.eq (ev_op (p := false) (x := .non) (y := .non) (by walk_at "ev") (by walk_at "ev") (o_eq rfl rfl)) (by rw [seq_non])) fun _ => ev_op (p := false) (x := .bl false) (y := .bl false) (by walk_at "ev") (by walk_at "ev") (o_eq rfl rfl)) (by rw [e2]; rfl)) ⟨by walk_at "b", rfl⟩
    | bl c =>
      refine w_seq (w_if (c := false) (et_tru (ev_isi2 (by walk_at "ev") rfl (by walk_at "kb") (by walk_at "kb")) rfl) (fun h => nomatch h) (fun _ => w_next ?_))
      exact w_ret (d := .bl true) (EvD.eq (ev_andV (c := true) (EvD.eq (ev_op (p := false) (x := .bl c) (y := .bl c) (by walk_at "ev") (by walk_at "ev") (o_eq rfl rfl)) (by rw [seq_bl])) fun _ => ev_op (p := false) (x := .bl true) (y := .bl true) (by walk_at "ev") (by walk_at "ev") (o_eq rfl rfl)) (by rw [e1]; rfl)) ⟨by walk_at "b", rfl⟩
    | int c =>
      refine w_seq (w_if (c := false) (et_tru (ev_isi2 (by walk_at "ev") rfl (by walk_at "kb") (by walk_at "kb")) rfl) (fun h => nomatch h) (fun _ => w_next ?_))
      exact w_ret (d := .bl true) (EvD.eq (ev_andV (c := true) (EvD.eq (ev_op (p := false) (x := .int c) (y := .int c) (by walk_at "ev") (by walk_at "ev") o_eqI) (by rw [decide_eq_true rfl])) fun _ => ev_op (p := false) (x := .bl false) (y := .bl false) (by walk_at "ev") (by walk_at "ev") (o_eq rfl rfl)) (by rw [e2]; rfl)) ⟨by walk_at "b", rfl⟩
    | str c =>
      have hs : D.shp 64 (.str c) = true := by
        have q := hx
        unfold sam at q
        unfold D.shp
        exact q
      refine w_seq (w_if (c := false) (et_tru (ev_isi2 (by walk_at "ev") rfl (by walk_at "kb") (by walk_at "kb")) rfl) (fun h => nomatch h) (fun _ => w_next ?_))
      exact w_ret (d := .bl true) (EvD.eq (ev_andV (c := true) (EvD.eq (ev_op (p := false) (x := .str c) (y := .str c) (by walk_at "ev") (by walk_at "ev") (o_eq hs hs)) (by rw [seq_str])) fun _ => ev_op (p := false) (x := .bl false) (y := .bl false) (by walk_at "ev") (by walk_at "ev") (o_eq rfl rfl)) (by rw [e2]; rfl)) ⟨by walk_at "b", rfl⟩
    | tup xs =>
      cases n with
      | zero => simp [sam] at hx
      | succ n =>
      have hx' := hx
      simp only [sam, Bool.and_eq_true, decide_eq_true_eq] at hx'
      refine w_seq (w_if (c := true) (et_tru (ev_isi2 (by walk_at "ev") rfl (by walk_at "kb") (by walk_at "kb")) rfl) (fun _ => ?_) (fun h => nomatch h))
      refine w_seq (w_if (c := false) (EvT.eq (et_or (et_tst (ev_op (p := false) (x := .bl false) (y := .bl false) (by walk_at "ev") (by walk_at "ev") (o_ne rfl rfl))) fun _ => et_not (et_tru (ev_isi2 (by walk_at "ev") rfl (by walk_at "kb") (by walk_at "kb")) rfl)) (by rw [e2]; rfl)) (fun h => nomatch h) (fun _ => w_next ?_))
      refine w_ret (d := .bl true) (EvD.eq (ev_andV (by walk_at "ev") fun _ => ev_cb (ea_cons (ev_lc1 (p := false) (fun i => .bl true) (ei_r1 (p := false) (n := (xs.length : Int)) (by walk_at "ev") (by omega)) (by omega) fun i hi => ?_) ea_nil) (c_all (bs := (List.range xs.length).map fun _ => true) (by rw [List.map_map, Int.toNat_natCast]; rfl))) ?_) ⟨by walk_at "b", rfl⟩
      · have hi' : i < xs.length := by omega
        have at1 := atI_at hi'
        refine ⟨_, tg_name, fun b0 => ?_⟩
        exact ev_cal (es := [xs.getD i .non, xs.getD i .non]) (by walk_at "ev") (cl_sameN (samA_at hx'.1 hi')) rfl
      · rw [decide_eq_true rfl, List.all_map]
        simp
    | lst xs =>
      cases n with
      | zero => simp [sam] at hx
      | succ n =>
      have hx' := hx
      simp only [sam, Bool.and_eq_true, decide_eq_true_eq] at hx'
      refine w_seq (w_if (c := true) (et_tru (ev_isi2 (by walk_at "ev") rfl (by walk_at "kb") (by walk_at "kb")) rfl) (fun _ => ?_) (fun h => nomatch h))
      refine w_seq (w_if (c := false) (EvT.eq (et_or (et_tst (ev_op (p := false) (x := .bl true) (y := .bl true) (by walk_at "ev") (by walk_at "ev") (o_ne rfl rfl))) fun _ => et_not (et_tru (ev_isi2 (by walk_at "ev") rfl (by walk_at "kb") (by walk_at "kb")) rfl)) (by rw [e1]; rfl)) (fun h => nomatch h) (fun _ => w_next ?_))
      refine w_ret (d := .bl true) (EvD.eq (ev_andV (by walk_at "ev") fun _ => ev_cb (ea_cons (ev_lc1 (p := false) (fun i => .bl true) (ei_r1 (p := false) (n := (xs.length : Int)) (by walk_at "ev") (by omega)) (by omega) fun i hi => ?_) ea_nil) (c_all (bs := (List.range xs.length).map fun _ => true) (by rw [List.map_map, Int.toNat_natCast]; rfl))) ?_) ⟨by walk_at "b", rfl⟩
      · have hi' : i < xs.length := by omega
        have at1 := atI_at hi'
        refine ⟨_, tg_name, fun b0 => ?_⟩
        exact ev_cal (es := [xs.getD i .non, xs.getD i .non]) (by walk_at "ev") (cl_sameN (samA_at hx'.1 hi')) rfl
      · rw [decide_eq_true rfl, List.all_map]
        simp
    | _ => cases hx
theorem ok__law_same (T : Txt K mg) : FnOk P w K mg base (L2.CX P w) 9 T.f__law_same T.fd__law_same ["found", "due"] (SpD K fd__law_same) := okA__law_same T 9

--OPT fdarg T.t_NoRest
def clsL : List D := [.str "NoRest", .str "Sherd", .str "Value"]
def fd__law_classes (C : Addr) : Fd := { n := 1, dom := fun ds => ∃ fs, ds = [.exc C fs], res := fun _ d => d = .lst clsL }
theorem cl__law_classes {C : Addr} {fs : List (Str × D)} : Cal (fd__law_classes C) [.exc C fs] (.lst clsL) := ⟨rfl, ⟨fs, rfl⟩, rfl, fun d h => h, fun _ _ q => q⟩
theorem ok__law_classes (T : Txt K mg) : FnOk P w K mg base (L2.CX P w) 1 T.f__law_classes T.fd__law_classes ["caught"] (SpD K (fd__law_classes T.t_NoRest)) := by
  refine fn_data (dvs := []) (kws := []) (N := N__law_classes) (.inr T.F__law_classes) sc__law_classes rfl (fun cdv A outer s H E hr tk => ?_)
  refine ⟨_, (pss_cons (ps_set (i := 1) sc__law_classes.nd rfl (Or.inl rfl) (pe_lst (pa_cons (pe_tup (pa_cons pe_str (pa_cons (pe_callB (g_isiE (K := K) rfl) rfl T.b_isinstance boot_isinstance (pa_cons (pv 0) (pa_cons (pe_glob (v := .ref T.t_NoRest) rfl T.g_NoRest rfl) pa_nil))) pa_nil))) (pa_cons (pe_tup (pa_cons pe_str (pa_cons (pe_callB (g_isiE (K := K) rfl) rfl T.b_isinstance boot_isinstance (pa_cons (pv 0) (pa_cons (pe_glob (v := .ref T.t_NoShape) rfl T.g_NoShape rfl) pa_nil))) pa_nil))) pa_nil))))
      (pss_cons (ps_set (i := 1) sc__law_classes.nd rfl (Or.inl rfl) (pe_op (g_add (K := K) rfl) (pv 1) (pe_lst (pa_cons (pe_tup (pa_cons pe_str (pa_cons (pe_callB (g_isiE (K := K) rfl) rfl T.b_isinstance boot_isinstance (pa_cons (pv 0) (pa_cons (pe_glob (v := .ref T.t_NoPlace) rfl T.g_NoPlace rfl) pa_nil))) pa_nil))) (pa_cons (pe_tup (pa_cons pe_str (pa_cons (pe_callB (g_isiE (K := K) rfl) rfl T.b_isinstance boot_isinstance (pa_cons (pv 0) (pa_cons (pe_glob (v := .ref T.t_NoRow) rfl T.g_NoRow rfl) pa_nil))) pa_nil))) pa_nil)))))
      (pss_cons (ps_set (i := 1) sc__law_classes.nd rfl (Or.inl rfl) (pe_op (g_add (K := K) rfl) (pv 1) (pe_lst (pa_cons (pe_tup (pa_cons pe_str (pa_cons (pe_callB (g_isiE (K := K) rfl) rfl T.b_isinstance boot_isinstance (pa_cons (pv 0) (pa_cons (pe_glob (v := .ref T.t_Hidden) rfl T.g_Hidden rfl) pa_nil))) pa_nil))) (pa_cons (pe_tup (pa_cons pe_str (pa_cons (pe_callB (g_isiE (K := K) rfl) rfl T.b_isinstance boot_isinstance (pa_cons (pv 0) (pa_cons (pe_glob (v := .ref T.t_SherdError) rfl T.g_SherdError rfl) pa_nil))) pa_nil))) pa_nil)))))
      (pss_cons (ps_expr (g_bm (K := K) rfl PySem.F.plainAttrs_list PySem.F.slot_list_append PySem.F.type_list_append g_append (pv 1) (pa_cons (pe_tup (pa_cons pe_str (pa_cons (pe_callB (g_isiE (K := K) rfl) rfl T.b_isinstance boot_isinstance (pa_cons (pv 0) (pa_cons (pe_bltn (v := .ty "ValueError") rfl T.b_ValueError PyProof.Rows.Boot.«ValueError» rfl) pa_nil))) pa_nil))) pa_nil)))
      (pss_cons (ps_set (i := 2) sc__law_classes.nd rfl (Or.inl rfl) (pe_callB (g_isiTE (K := K) rfl) rfl T.b_isinstance boot_isinstance (pa_cons (pv 0) (pa_cons (pe_tup (pa_cons (pe_glob (v := .ref T.t_Dark) rfl T.g_Dark rfl) (pa_cons (pe_glob (v := .ref T.t_Down) rfl T.g_Down rfl) (pa_cons (pe_glob (v := .ref T.t_Lost) rfl T.g_Lost rfl) (pa_cons (pe_glob (v := .ref T.t_NoBook) rfl T.g_NoBook rfl) (pa_cons (pe_glob (v := .ref T.t_NoCard) rfl T.g_NoCard rfl) (pa_cons (pe_glob (v := .ref T.t_NoHomes) rfl T.g_NoHomes rfl) (pa_cons (pe_glob (v := .ref T.t_NoHour) rfl T.g_NoHour rfl) (pa_cons (pe_glob (v := .ref T.t_NoHouse) rfl T.g_NoHouse rfl) (pa_cons (pe_glob (v := .ref T.t_NoLevel) rfl T.g_NoLevel rfl) (pa_cons (pe_glob (v := .ref T.t_NoMoves) rfl T.g_NoMoves rfl) pa_nil))))))))))) pa_nil))))
      (pss_cons (ps_set (i := 2) sc__law_classes.nd rfl (Or.inl rfl) (pe_or (pv 2) (pe_one (pe_callB (g_isiTE (K := K) rfl) rfl T.b_isinstance boot_isinstance (pa_cons (pv 0) (pa_cons (pe_tup (pa_cons (pe_glob (v := .ref T.t_NoName) rfl T.g_NoName rfl) (pa_cons (pe_glob (v := .ref T.t_NoObject) rfl T.g_NoObject rfl) (pa_cons (pe_glob (v := .ref T.t_NoOrder) rfl T.g_NoOrder rfl) (pa_cons (pe_glob (v := .ref T.t_NoRoom) rfl T.g_NoRoom rfl) (pa_cons (pe_glob (v := .ref T.t_NoText) rfl T.g_NoText rfl) (pa_cons (pe_glob (v := .ref T.t_NoTicket) rfl T.g_NoTicket rfl) (pa_cons (pe_glob (v := .ref T.t_NoWeight) rfl T.g_NoWeight rfl) (pa_cons (pe_glob (v := .ref T.t_NotAll) rfl T.g_NotAll rfl) pa_nil))))))))) pa_nil))))))
      (pss_cons (ps_set (i := 2) sc__law_classes.nd rfl (Or.inl rfl) (pe_or (pv 2) (pe_one (pe_callB (g_isiTE (K := K) rfl) rfl T.b_isinstance boot_isinstance (pa_cons (pv 0) (pa_cons (pe_tup (pa_cons (pe_glob (v := .ref T.t_NotEmpty) rfl T.g_NotEmpty rfl) (pa_cons (pe_glob (v := .ref T.t_Stale) rfl T.g_Stale rfl) (pa_cons (pe_glob (v := .ref T.t_Stopped) rfl T.g_Stopped rfl) (pa_cons (pe_glob (v := .ref T.t_Taken) rfl T.g_Taken rfl) pa_nil))))) pa_nil))))))
      (pss_one (ps_ret (pe_lc (own := [("word", 3), ("there", 4)]) rfl sc__law_classes.nd (g_list (K := K) rfl (pe_op (g_add (K := K) rfl) (pv 1) (pe_lst (pa_cons (pe_tup (pa_cons pe_str (pa_cons (pv 2) pa_nil))) pa_nil)))) (blkOk_by (own := [("word", 3), ("there", 4)]) (N := N__law_classes) (sc := defScope s__law_classes) (by decide +kernel)) (fun _ _ _ _ _ => (g_tup (K := K) (n := 2) rfl rfl (pgs_cons (pg_name (i := 3) sc__law_classes.nd rfl (Or.inl rfl)) (pgs_cons (pg_name (i := 4) sc__law_classes.nd rfl (Or.inl rfl)) pgs_nil)))) (fun _ _ _ _ _ => (pts_one (g_tru (K := K) rfl (pv 4) (fun _ => rfl)))) (fun _ _ _ _ _ => (pv 3)))))))))))), fun ds N' b hl hd acc => ?_⟩
  obtain ⟨fs, rfl⟩ := hd
  have hE : ClsD K (.exc T.t_NoRest fs) (.ref T.t_NoRest) := .exc T.e_NoRest
  have y1 := T.y_NoRest_NoRest
  have y2 := T.y_NoRest_NoShape
  have y3 := T.y_NoRest_NoPlace
  have y4 := T.y_NoRest_NoRow
  have y5 := T.y_NoRest_Hidden
  have y6 := T.y_NoRest_SherdError
  have y7 := T.y_NoRest_ValueError
  have n1 := T.y_NoRest_Dark
  have n2 := T.y_NoRest_Down
  have n3 := T.y_NoRest_Lost
  have n4 := T.y_NoRest_NoBook
  have n5 := T.y_NoRest_NoCard
  have n6 := T.y_NoRest_NoHomes
  have n7 := T.y_NoRest_NoHour
  have n8 := T.y_NoRest_NoHouse
  have n9 := T.y_NoRest_NoLevel
  have n10 := T.y_NoRest_NoMoves
  have n11 := T.y_NoRest_NoName
  have n12 := T.y_NoRest_NoObject
  have n13 := T.y_NoRest_NoOrder
  have n14 := T.y_NoRest_NoRoom
  have n15 := T.y_NoRest_NoText
  have n16 := T.y_NoRest_NoTicket
  have n17 := T.y_NoRest_NoWeight
  have n18 := T.y_NoRest_NotAll
  have n19 := T.y_NoRest_NotEmpty
  have n20 := T.y_NoRest_Stale
  have n21 := T.y_NoRest_Stopped
  have n22 := T.y_NoRest_Taken
  refine w_seq (w_asg (d := .lst [.tup [.str "NoRest", .bl true], .tup [.str "NoShape", .bl false]]) (by walk_at "ev") ?_)
  refine w_seq (w_asg (d := .lst [.tup [.str "NoRest", .bl true], .tup [.str "NoShape", .bl false], .tup [.str "NoPlace", .bl false], .tup [.str "NoRow", .bl false]]) (EvD.eq (by walk_at "ev") (by rfl)) ?_)
  refine w_seq (w_ownE (xs := [.tup [.str "NoRest", .bl true], .tup [.str "NoShape", .bl false], .tup [.str "NoPlace", .bl false], .tup [.str "NoRow", .bl false], .tup [.str "Hidden", .bl false], .tup [.str "Sherd", .bl true]]) (by
    exact eo_catL (xs := [.tup [.str "NoRest", .bl true], .tup [.str "NoShape", .bl false], .tup [.str "NoPlace", .bl false], .tup [.str "NoRow", .bl false]]) (ys := [.tup [.str "Hidden", .bl false], .tup [.str "Sherd", .bl true]]) (by walk_at "ev") (by walk_at "ev") (by decide)) ?_)
  refine w_seq (w_app (d := .tup [.str "Value", .bl true]) rfl (by walk_at "ev") (by decide) (w_freeze (i := 1) rfl ?_))
  refine w_seq (w_asg (d := .bl false) (ev_isiTN [T.t_Dark, T.t_Down, T.t_Lost, T.t_NoBook, T.t_NoCard, T.t_NoHomes, T.t_NoHour, T.t_NoHouse, T.t_NoLevel, T.t_NoMoves] (by walk_at "ev") hE (by repeat (first | exact fun _ h => absurd h List.not_mem_nil | refine List.forall_mem_cons.mpr ⟨by assumption, ?_⟩)) (by show 10 ≤ 1000; decide)) ?_)
  refine w_seq (w_asg (d := .bl false) (EvD.eq (ev_orV (c := false) (e := false) (by walk_at "ev") fun _ => ev_isiTN [T.t_NoName, T.t_NoObject, T.t_NoOrder, T.t_NoRoom, T.t_NoText, T.t_NoTicket, T.t_NoWeight, T.t_NotAll] (by walk_at "ev") hE (by repeat (first | exact fun _ h => absurd h List.not_mem_nil | refine List.forall_mem_cons.mpr ⟨by assumption, ?_⟩)) (by show 8 ≤ 1000; decide)) rfl) ?_)
  refine w_seq (w_asg (d := .bl false) (EvD.eq (ev_orV (c := false) (e := false) (by walk_at "ev") fun _ => ev_isiTN [T.t_NotEmpty, T.t_Stale, T.t_Stopped, T.t_Taken] (by walk_at "ev") hE (by repeat (first | exact fun _ h => absurd h List.not_mem_nil | refine List.forall_mem_cons.mpr ⟨by assumption, ?_⟩)) (by show 4 ≤ 1000; decide)) rfl) ?_)
  refine w_ret (d := .lst clsL) (EvD.eq (ev_lc (fun i => [true, false, false, false, false, true, true, false].getD i false) (fun i => .str (["NoRest", "NoShape", "NoPlace", "NoRow", "Hidden", "Sherd", "Value", "other"].getD i "")) (ei_list (xs := [.tup [.str "NoRest", .bl true], .tup [.str "NoShape", .bl false], .tup [.str "NoPlace", .bl false], .tup [.str "NoRow", .bl false], .tup [.str "Hidden", .bl false], .tup [.str "Sherd", .bl true], .tup [.str "Value", .bl true], .tup [.str "other", .bl false]]) (EvD.eq (by walk_at "ev") (by rfl))) (by decide) fun i hi => ?_) (by rfl)) ⟨by walk_at "b", rfl⟩
  have hi : i < 8 := hi
  have h8 : i = 0 ∨ i = 1 ∨ i = 2 ∨ i = 3 ∨ i = 4 ∨ i = 5 ∨ i = 6 ∨ i = 7 := by omega
  rcases h8 with rfl | rfl | rfl | rfl | rfl | rfl | rfl | rfl <;> exact ⟨_, tg_tup (tgs_cons tg_name (tgs_cons tg_name tgs_nil)) rfl, fun b0 => ⟨et_tru (by walk_at "ev") rfl, fun _ => by walk_at "ev"⟩⟩

def fd__law_quotient : Fd := { n := 2, dom := fun ds => ∃ i j : Int, ds = [.int i, .int j] ∧ i.natAbs < 2 ^ 250 ∧ j.natAbs < 2 ^ 250, res := fun _ d => d = .bl true }
theorem cl__law_quotient {i j : Int} (h : i.natAbs < 2 ^ 250) (h2 : j.natAbs < 2 ^ 250) : Cal fd__law_quotient [.int i, .int j] (.bl true) := ⟨rfl, ⟨i, j, rfl, h, h2⟩, rfl, fun d h => h, fun _ _ q => q⟩
local macro_rules | `(tactic| walk_at "cal") => `(tactic| (apply cl__law_quotient <;> first | assumption | omega | skip))
theorem pow_m (y : Int) (k : Nat) : ((y % 97) ^ k) % 97 = (y ^ k) % 97 := by
  induction k with
  | zero => rw [Int.pow_zero, Int.pow_zero]
  | succ k ih => rw [Int.pow_succ, Int.pow_succ, Int.mul_emod, ih, Int.emod_emod_of_dvd _ (Int.dvd_refl 97), ← Int.mul_emod]
theorem mul_m (a b : Int) : a * (b % 97) % 97 = a * b % 97 := by rw [Int.mul_emod, Int.emod_emod_of_dvd _ (Int.dvd_refl 97), ← Int.mul_emod]
theorem mul_m' (a b : Int) : (a % 97) * b % 97 = a * b % 97 := by rw [Int.mul_comm, mul_m, Int.mul_comm]
theorem fermat (j : Int) (h : j % 97 ≠ 0) : pw j 96 = 1 := by
  have key : ∀ r : Nat, r < 97 → r ≠ 0 → ((r : Int) ^ 96) % 97 = 1 := by decide +kernel
  have h1 : 0 ≤ j % 97 := Int.emod_nonneg _ (by decide)
  have h2 : j % 97 < 97 := Int.emod_lt_of_pos _ (by decide)
  have q := key (j % 97).toNat (by omega) (by omega)
  rw [Int.toNat_of_nonneg h1, pow_m] at q
  exact q
theorem inv_m (j : Int) (h : j % 97 ≠ 0) : pw j 95 * j % 97 = 1 := by
  have q := fermat j h
  unfold pw at q ⊢
  rw [mul_m', ← Int.pow_succ]
  exact q
theorem shp_clsL : D.shp 64 (.lst clsL) = true := by decide +kernel
theorem eq_clsL : D.eq (.lst clsL) (.lst clsL) = true := by simp [clsL, D.eq, D.py, D.pyA, PyData.eqv, PyData.eqvAll]
theorem ok__law_quotient (T : Txt K mg) : FnOk P w K mg base (L2.CX P w) 10 T.f__law_quotient T.fd__law_quotient ["one", "other"] (SpD K fd__law_quotient) := by
  refine fn_data (dvs := []) (kws := []) (N := N__law_quotient) (.inr T.F__law_quotient) sc__law_quotient rfl (fun cdv A outer s H E hr tk => ?_)
  refine ⟨_, (pss_cons (ps_set (i := 2) sc__law_quotient.nd rfl (Or.inl rfl) pe_non)
      (pss_cons (ps_set (i := 3) sc__law_quotient.nd rfl (Or.inl rfl) pe_non)
      (pss_cons (g_tryK (K := K) rfl (i := 4) (c := .ref T.t_SherdError) rfl rfl rfl sc__law_quotient.nd rfl rfl ⟨by rfl, by decide, .inl T.g_SherdError⟩ tk (fun W pn xe tk _ => (pss_one (ps_set (i := 2) sc__law_quotient.nd rfl (Or.inl rfl) (pe_cl (m := 0) (ok_over T) (hr.mono (by decide)) rfl T.g_over T.k_over T.b_over (passD tk) (pa_cons (pv 0) (pa_cons (pv 1) pa_nil)) pk_nil))))
      (fun a pn => (pss_one (ps_set (i := 3) sc__law_quotient.nd rfl (Or.inl rfl) (pv 4)))))
      (pss_cons (ps_if (pt_cmpR (g_eq (K := K) rfl hr) (pe_op g_mod (pv 1) pe_int) pe_int (nomark _)) (pss_cons (ps_set (i := 5) sc__law_quotient.nd rfl (Or.inl rfl) (pe_and (pe_cmpR g_is (pv 2) pe_non (nomark _)) (pe_one (pe_cmpR (g_eq (K := K) rfl hr) (pe_cl (m := 0) (ok__law_classes T) (hr.mono (by decide)) rfl T.g__law_classes T.k__law_classes T.b__law_classes (passD tk) (pa_cons (pv 3) pa_nil) pk_nil) (pe_lst (pa_cons pe_str (pa_cons pe_str (pa_cons pe_str pa_nil)))) (nomark _)))))
      (pss_one (ps_ret (pe_and (pv 5) (pe_one (pe_cl (m := 0) (ok__law_same T) (hr.mono (by decide)) rfl T.g__law_same T.k__law_same T.b__law_same (passD tk) (pa_cons (g_fldE (K := K) rfl (pv 3)) (pa_cons (pv 1) pa_nil)) pk_nil)))))) pss_nil)
      (pss_one (ps_ret (pe_and (pe_cmpR g_is (pv 3) pe_non (nomark _)) (pe_and (pe_cl (m := 0) (ok__law_whole T) (hr.mono (by decide)) rfl T.g__law_whole T.k__law_whole T.b__law_whole (passD tk) (pa_cons (pv 2) pa_nil) pk_nil) (pe_and (pe_chain g_le g_le pe_int (pv 2) pe_int) (pe_one (pe_cmpR (g_eq (K := K) rfl hr) (pe_op g_mod (pe_op g_sub (pe_op g_mul (pv 2) (pv 1)) (pv 0)) pe_int) pe_int (nomark _)))))))))))), fun ds N' b hl hd acc => ?_⟩
  obtain ⟨i, j, rfl, hi, hj⟩ := hd
  refine w_seq (w_asg (by walk_at "ev") (w_seq (w_asg (by walk_at "ev") (w_seq ?_))))
  refine w_mid (fun ds b' => ∃ (f c : D) (s4 s5 : Sd), ds = [.dat (.int i), .dat (.int j), .dat f, .dat c, s4, s5] ∧ b' = fd__law_quotient.cost [.int i, .int j] + b ∧ ((j % 97 ≠ 0 ∧ f = .int (i * pw j 95 % 97) ∧ c = .non) ∨ (j % 97 = 0 ∧ f = .non ∧ c = .exc T.t_NoRest [("number", .int j)]))) ?_ ?_
  · refine w_tryK (fun C fs ds' b' => C = T.t_NoRest ∧ fs = [(("number" : Str), D.int j)] ∧ j % 97 = 0 ∧ ds' = [.dat (.int i), .dat (.int j), .dat .non, .dat .non, .un, .un] ∧ b' = fd__law_quotient.cost [.int i, .int j] + b) ?_ (by rfl) (fun W H1 M1 acc1 => ?_) ?_
    · intro s hs
      have q := List.all_eq_true.mp (show (List.all _ fun s => !isOwn s) = true from rfl) s hs
      simpa using q
    · refine ws_asg (evs_cl (p := true) (b' := fd__law_quotient.cost [.int i, .int j] + b) (F := fd_over T.t_NoRest) (gD := fun es _ => es) (fs := []) (Ra := fun es => es = [.int i, .int j]) (by walk_at "ev") ea_nil (fun _ _ _ _ _ r _ => r) rfl (fun es e => by
        subst e
        exact ⟨rfl, rfl, ⟨i, j, rfl, hi⟩, Nat.le_of_eq (Nat.zero_add _), fun C x ⟨i', j', e, q1, q2, q3⟩ => by
          cases e
          exact ⟨rfl, acc1, fun _ => rfl, q2, q3, q1, rfl, rfl⟩⟩)) ?_
      rintro d ⟨es, rfl, i', j', e, q1, q2⟩
      cases e
      exact ⟨_, _, _, _, rfl, rfl, .inl ⟨q1, q2, rfl⟩⟩
    · rintro C fs ds' b' ⟨rfl, rfl, hj0, rfl, rfl⟩
      refine ⟨T.m_NoRest_SherdError, ?_⟩
      refine w_asg (by walk_at "ev") ?_
      exact ⟨_, _, _, _, rfl, rfl, .inr ⟨hj0, rfl, rfl⟩⟩
  · rintro ds' b' ⟨f, c, s4, s5, rfl, rfl, h⟩
    rcases h with ⟨hj0, rfl, rfl⟩ | ⟨hj0, rfl, rfl⟩
    · have hp := pw_lt j 95
      have l1 : (i * pw j 95 % 97).natAbs < 2 ^ 7 := by omega
      have c1 : CMulW (i * pw j 95 % 97) j := cmul_of 7 250 l1 hj
      have key : (i * pw j 95 % 97 * j - i) % 97 = 0 := by
        have e1 : i * pw j 95 % 97 * j % 97 = i % 97 := by
          rw [mul_m', Int.mul_assoc, ← mul_m, inv_m j hj0, Int.mul_one]
        omega
      refine w_seq (w_if (c := false) (EvT.eq (by walk_at "ev") (decide_eq_false hj0)) (fun h => nomatch h) (fun _ => w_next ?_))
      refine w_ret (d := .bl true) (EvD.eq (by walk_at "ev") ?_) ⟨by walk_at "b", rfl⟩
      rw [decide_eq_true key, decide_eq_true (show 0 ≤ i * pw j 95 % 97 by omega), decide_eq_true (show i * pw j 95 % 97 ≤ 96 by omega)]
      rfl
    · refine w_seq (w_if (c := true) (EvT.eq (by walk_at "ev") (decide_eq_true hj0)) (fun _ => ?_) (fun h => nomatch h))
      refine w_seq (w_asg (d := .bl true) (EvD.eq (ev_andV (c := true) (by walk_at "ev") fun _ => ev_op (p := false) (x := .lst clsL) (y := .lst clsL) (ev_cal (by walk_at "ev") cl__law_classes rfl) (EvD.eq (by walk_at "ev") (by rfl)) (o_eq shp_clsL shp_clsL)) (by rw [eq_clsL]; rfl)) ?_)
      refine w_ret (d := .bl true) (EvD.eq (ev_andV (c := true) (by walk_at "ev") fun _ => ev_cal (es := [.int j, .int j]) (ea_cons (ev_fldE (C := T.t_NoRest) (fs := [(("number" : Str), D.int j)]) (by walk_at "ev") (excc_xf T.e_NoRest) T.n_NoRest (by rfl)) (by walk_at "ev")) (cl__law_same (by simp [sam])) rfl) rfl) ⟨by walk_at "b", rfl⟩

def fd_law : Fd := { n := 1, dom := fun ds => ∃ ns : List Int, ds = [.scr ns], cost := fun _ => 240, res := fun _ d => d = .bl true }
theorem cost_law (ns : List Int) (h : ns.length ≤ 63) : fd_law.cost [.scr ns] ≤ LIM := (by decide : 240 ≤ LIM)
theorem dom_law (ns : List Int) : fd_law.dom [.scr ns] := ⟨ns, rfl⟩
theorem pw_next (i : Int) (t : Nat) : pw i t * i % 97 = pw i (t + 1) := by
  unfold pw
  rw [mul_m', Int.pow_succ]
theorem pw_m (i : Int) (t : Nat) : pw i t % 97 = pw i t := by
  unfold pw
  rw [Int.emod_emod_of_dvd _ (Int.dvd_refl 97)]
theorem ok_law (T : Txt K mg) : FnOk P w K mg base (L2.CX P w) 11 T.f_law T.fd_law ["script"] (SpD K fd_law) := by
  refine fn_data (dvs := []) (kws := []) (N := N_law) (.inr T.F_law) sc_law rfl (fun cdv A outer s H E hr tk => ?_)
  refine ⟨_, (pss_cons (ps_for (passes_of rfl) rfl (pi_range1 rfl T.b_range (pa_cons (pe_callB (g_max rfl) rfl T.b_max boot_max (pa_cons pe_int (pa_cons (pe_callB (g_min rfl) rfl T.b_min boot_min (pa_cons pe_int (pa_cons (pe_callB (g_len (K := K) rfl) rfl T.b_len boot_len (pa_cons (pv 0) pa_nil)) pa_nil))) pa_nil))) pa_nil)) (pg_name (i := 1) sc_law.nd rfl (Or.inl rfl)) (pss_cons (ps_set (i := 2) sc_law.nd rfl (Or.inl rfl) (pe_cl (m := 0) (ok__law_purse T) (hr.mono (by decide)) rfl T.g__law_purse T.k__law_purse T.b__law_purse (passD tk) (pa_cons (pv 0) (pa_cons (pv 1) pa_nil)) pk_nil))
      (pss_cons (ps_set (i := 3) sc_law.nd rfl (Or.inl rfl) (pe_cl (m := 0) (ok__law_drawn T) (hr.mono (by decide)) rfl T.g__law_drawn T.k__law_drawn T.b__law_drawn (passD tk) (pa_cons (pv 2) (pa_cons pe_int pa_nil)) pk_nil))
      (pss_cons (ps_set (i := 4) sc_law.nd rfl (Or.inl rfl) (pe_cl (m := 0) (ok__law_drawn T) (hr.mono (by decide)) rfl T.g__law_drawn T.k__law_drawn T.b__law_drawn (passD tk) (pa_cons (pv 2) (pa_cons (pe_ix (g_ix (K := K) rfl hr) (pe_lst (pa_cons pe_int (pa_cons pe_int (pa_cons pe_int pa_nil)))) (pv 3) (fun _ _ => rfl)) pa_nil)) pk_nil))
      (pss_cons (ps_set (i := 5) sc_law.nd rfl (Or.inl rfl) (pe_cl (m := 0) (ok__law_number T) (hr.mono (by decide)) rfl T.g__law_number T.k__law_number T.b__law_number (passD tk) (pa_cons (pv 2) pa_nil) pk_nil))
      (pss_cons (ps_set (i := 6) sc_law.nd rfl (Or.inl rfl) (pe_cl (m := 0) (ok__law_number T) (hr.mono (by decide)) rfl T.g__law_number T.k__law_number T.b__law_number (passD tk) (pa_cons (pv 2) pa_nil) pk_nil))
      (pss_cons (ps_set (i := 7) sc_law.nd rfl (Or.inl rfl) pe_int)
      (pss_cons (ps_for (passes_of rfl) rfl (pi_range1 rfl T.b_range (pa_cons (pv 4) pa_nil)) (pg_name (i := 8) sc_law.nd rfl (Or.inl rfl)) (pss_one (ps_set (i := 7) sc_law.nd rfl (Or.inl rfl) (pe_op g_mod (pe_op g_mul (pv 7) (pv 5)) pe_int))))
      (pss_cons (ps_set (i := 9) sc_law.nd rfl (Or.inl rfl) (pe_lst (pa_cons (pe_cl (m := 0) (ok_plus T) (hr.mono (by decide)) rfl T.g_plus T.k_plus T.b_plus (passD tk) (pa_cons (pv 5) (pa_cons (pv 6) pa_nil)) pk_nil) (pa_cons (pe_cl (m := 0) (ok_minus T) (hr.mono (by decide)) rfl T.g_minus T.k_minus T.b_minus (passD tk) (pa_cons (pv 5) (pa_cons (pv 6) pa_nil)) pk_nil) (pa_cons (pe_cl (m := 0) (ok_times T) (hr.mono (by decide)) rfl T.g_times T.k_times T.b_times (passD tk) (pa_cons (pv 5) (pa_cons (pv 6) pa_nil)) pk_nil) (pa_cons (pe_cl (m := 0) (ok_power T) (hr.mono (by decide)) rfl T.g_power T.k_power T.b_power (passD tk) (pa_cons (pv 5) (pa_cons (pv 4) pa_nil)) pk_nil) pa_nil))))))
      (pss_cons (ps_if (pt_not (g_tru (K := K) rfl (pe_cl (m := 0) (ok__law_same T) (hr.mono (by decide)) rfl T.g__law_same T.k__law_same T.b__law_same (passD tk) (pa_cons (pv 9) (pa_cons (pe_lst (pa_cons (pe_op g_mod (pe_op (g_add (K := K) rfl) (pv 5) (pv 6)) pe_int) (pa_cons (pe_op g_mod (pe_op g_sub (pv 5) (pv 6)) pe_int) (pa_cons (pe_op g_mod (pe_op g_mul (pv 5) (pv 6)) pe_int) (pa_cons (pe_op g_mod (pv 7) pe_int) pa_nil))))) pa_nil)) pk_nil) (fun _ => rfl))) (pss_one (ps_ret pe_bl)) pss_nil)
      (pss_cons (ps_if (PW.pt (pw_or (pt_not (g_tru (K := K) rfl (pe_callB (g_all (K := K) rfl rfl) rfl T.b_all boot_all (pa_cons (pe_lc (own := [("number", 10)]) rfl sc_law.nd (g_list (K := K) rfl (pv 9)) (blkOk_by (own := [("number", 10)]) (N := N_law) (sc := defScope s_law) (by decide +kernel)) (fun _ _ _ _ _ => (pg_name (i := 10) sc_law.nd rfl (Or.inl rfl))) (fun _ _ _ _ _ => pts_nil) (fun _ _ _ _ _ => (pe_cl (m := 0) (ok__law_whole T) (hr.mono (by decide)) rfl T.g__law_whole T.k__law_whole T.b__law_whole pass_never (pa_cons (pv 10) pa_nil) pk_nil))) pa_nil)) (fun _ => rfl))) (pw_or1 (pt_not (g_tru (K := K) rfl (pe_cl (m := 0) (ok__law_quotient T) (hr.mono (by decide)) rfl T.g__law_quotient T.k__law_quotient T.b__law_quotient (passD tk) (pa_cons (pv 5) (pa_cons (pv 6) pa_nil)) pk_nil) (fun _ => rfl)))))) (pss_one (ps_ret pe_bl)) pss_nil)
      (pss_one (ps_if (pt_not (g_tru (K := K) rfl (pe_cl (m := 0) (ok__law_quotient T) (hr.mono (by decide)) rfl T.g__law_quotient T.k__law_quotient T.b__law_quotient (passD tk) (pa_cons (pv 6) (pa_cons (pv 5) pa_nil)) pk_nil) (fun _ => rfl))) (pss_one (ps_ret pe_bl)) pss_nil)))))))))))))
      (pss_one (ps_ret (pe_cl (m := 0) (ok__law_same T) (hr.mono (by decide)) rfl T.g__law_same T.k__law_same T.b__law_same (passD tk) (pa_cons (pe_glob (v := .int 97) rfl T.c_PRIME ⟨_, rfl⟩) (pa_cons pe_int pa_nil)) pk_nil)))), fun ds N' b hl hd acc => ?_⟩
  obtain ⟨ns, rfl⟩ := hd
  have hc : fd_law.cost [.scr ns] + b = b + 240 := by show 240 + b = b + 240; omega
  rw [hc]
  refine w_seq (w_for allV (fun i ds b' => ∃ s1 s2 s3 s4 s5 s6 s7 s8 s9 s10 : Sd, ds = [.dat (.scr ns), s1, s2, s3, s4, s5, s6, s7, s8, s9, s10] ∧ b' = b + 20 * (12 - i)) (ei_r1 (n := max 1 (min 12 (ns.length : Int))) (by walk_at "ev") (by omega)) ⟨_, _, _, _, _, _, _, _, _, _, rfl, by omega⟩ ?_ ?_)
  · rintro i ds' b' hi ⟨s1, s2, s3, s4, s5, s6, s7, s8, s9, s10, rfl, rfl⟩
    refine ⟨_, tg_name, ?_⟩
    have hi4 : i < 12 := by omega
    have hb : b + 20 * (12 - i) = (b + 20 * (12 - (i + 1))) + 20 := by omega
    rw [hb]
    generalize hb1 : b + 20 * (12 - (i + 1)) = b1
    refine w_seq (w_asg (by walk_at "ev") (w_seq ?_))
    refine ws_asg (evs_cal (b' := b1 + 19) (by walk_at "ev") (cas_draw (m := 3) (by decide) (by decide)) rfl (by omega)) ?_
    rintro _ ⟨pick, rfl, p0, p1⟩
    have hat : ∃ m : Int, L2.atI [D.int 8, D.int 100, D.int 1001] pick = some (.int m) ∧ 0 < m ∧ m ≤ 1001 := by
      have hk : pick = 0 ∨ pick = 1 ∨ pick = 2 := by omega
      rcases hk with rfl | rfl | rfl
      · exact ⟨8, rfl, by decide, by decide⟩
      · exact ⟨100, rfl, by decide, by decide⟩
      · exact ⟨1001, rfl, by decide, by decide⟩
    obtain ⟨mm, hat, m0, m1⟩ := hat
    refine w_seq (ws_asg (evs_cal (b' := b1 + 18) (by walk_at "ev") (cas_draw (m := mm) (by omega) (by omega)) rfl (by omega)) ?_)
    rintro _ ⟨many, rfl, q0, q1⟩
    refine w_seq (ws_asg (evs_cal (b' := b1 + 12) (by walk_at "ev") cas__law_number rfl (by omega)) ?_)
    rintro _ ⟨one, rfl, ho⟩
    refine w_seq (ws_asg (evs_cal (b' := b1 + 6) (by walk_at "ev") cas__law_number rfl (by omega)) ?_)
    rintro _ ⟨other, rfl, ht⟩
    have e0 : pw one 0 = 1 := by unfold pw; rw [Int.pow_zero]; rfl
    refine w_seq (w_asg (d := .int (pw one 0)) (EvD.eq (by walk_at "ev") (by rw [e0])) (w_seq ?_))
    refine w_for allV (fun t ds b' => ∃ s8 s9 s10 : Sd, ds = [.dat (.scr ns), .dat (.int i), .dat .purse, .dat (.int pick), .dat (.int many), .dat (.int one), .dat (.int other), .dat (.int (pw one t)), s8, s9, s10] ∧ b' = b1 + 6) (ei_r1 (n := many) (by walk_at "ev") (by omega)) ⟨_, _, _, rfl, rfl⟩ ?_ ?_
    · rintro t ds2 b2 hlt ⟨s8, s9, s10, rfl, rfl⟩
      refine ⟨_, tg_name, ?_⟩
      have hp := pw_lt one t
      have c1 : CMulW (pw one t) one := cmul_of 7 220 hp ho
      refine w_asg (d := .int (pw one (t + 1))) (EvD.eq (by walk_at "ev") (by rw [pw_next])) ?_
      exact ⟨_, _, _, rfl, rfl⟩
    · rintro ds2 b2 ⟨s8, s9, s10, rfl, rfl⟩
      have hp := pw_lt one many.toNat
      have c2 : CMulW one other := cmul_of 220 220 ho ht
      have s1' : sam 8 (.lst [.int ((one + other) % 97), .int ((one - other) % 97), .int (one * other % 97), .int (pw one many.toNat)]) = true := by simp [sam, samA]
      refine w_seq (w_asg (d := .lst [.int ((one + other) % 97), .int ((one - other) % 97), .int (one * other % 97), .int (pw one many.toNat)]) (EvD.eq (by walk_at "ev") (by rfl)) (w_seq ?_))
      refine w_if (c := false) (EvT.eq (et_not (et_tru (ev_cal (p := false) (es := [.lst [.int ((one + other) % 97), .int ((one - other) % 97), .int (one * other % 97), .int (pw one many.toNat)], .lst [.int ((one + other) % 97), .int ((one - other) % 97), .int (one * other % 97), .int (pw one many.toNat)]]) (EaD.eq (by walk_at "ev") (by rw [pw_m])) (cl__law_same s1') rfl) rfl)) rfl) (fun h => nomatch h) (fun _ => w_next (w_seq ?_))
      have ql := cl__law_quotient (i := one) (j := other) (Nat.lt_trans ho (by decide)) (Nat.lt_trans ht (by decide))
      have qr := cl__law_quotient (i := other) (j := one) (Nat.lt_trans ht (by decide)) (Nat.lt_trans ho (by decide))
      refine w_if (c := false) (EvT.eq (et_or (c := false) (et_not (et_tru (d := .bl true) (EvD.eq (ev_cb (ea_cons (EvD.wk (ev_lc1 (fun _ => .bl true) (ei_list (xs := [.int ((one + other) % 97), .int ((one - other) % 97), .int (one * other % 97), .int (pw one many.toNat)]) (by walk_at "ev")) (by show 4 ≤ 100000; decide) fun k hk => ?_)) ea_nil) (c_all (bs := [true, true, true, true]) (by rfl))) (by rfl)) rfl)) fun _ => et_not (et_tru (ev_cal (p := false) (by walk_at "ev") ql rfl) rfl)) (by rfl)) (fun h => nomatch h) (fun _ => w_next ?_)
      · have hk : k < 4 := hk
        have h4 : k = 0 ∨ k = 1 ∨ k = 2 ∨ k = 3 := by omega
        rcases h4 with rfl | rfl | rfl | rfl <;> exact ⟨_, tg_name, fun b0 => ev_cal (by walk_at "ev") cl__law_whole rfl⟩
      · refine Wt.less (b' := b1) ?_ (by omega)
        refine w_if (c := false) (EvT.eq (et_not (et_tru (ev_cal (p := false) (by walk_at "ev") qr rfl) rfl)) rfl) (fun h => nomatch h) (fun _ => w_next ?_)
        exact ⟨_, _, _, _, _, _, _, _, _, _, rfl, by first | rfl | exact hb1.symm⟩
  · rintro ds' b' ⟨s1, s2, s3, s4, s5, s6, s7, s8, s9, s10, rfl, rfl⟩
    refine w_ret (d := .bl true) (ev_cal (es := [.int 97, .int 97]) (by walk_at "ev") (cl__law_same (by simp [sam])) rfl) ?_
    exact ⟨by omega, rfl⟩

end
/-! ### what the top has written; the law's own head -/
theorem all_mk {l : PySem.W.OpenLaw} {w : World} {K : PySem.W.Frag} {h : Heap} {mg : Str → Option Value} {fa f_plus f_minus f_times f_power f_over f__law_purse f__law_drawn f__law_number f__law_whole f__law_same f__law_classes f__law_quotient f_law : Addr} {od_plus an_plus od_minus an_minus od_times an_times od_power an_power od_over an_over od__law_purse an__law_purse od__law_drawn an__law_drawn od__law_number an__law_number od__law_whole an__law_whole od__law_same an__law_same od__law_classes an__law_classes od__law_quotient an__law_quotient od_law an_law : Option Addr} {sl_plus sl_minus sl_times sl_power sl_over sl__law_purse sl__law_drawn sl__law_number sl__law_whole sl__law_same sl__law_classes sl__law_quotient sl_law : Array (Option Value)}
    {oc_plus kV_plus dc_plus pm_plus cd_plus ct_plus oc_minus kV_minus dc_minus pm_minus cd_minus ct_minus oc_times kV_times dc_times pm_times cd_times ct_times oc_power kV_power dc_power pm_power cd_power ct_power oc_over kV_over dc_over pm_over cd_over ct_over oc__law_purse kV__law_purse dc__law_purse pm__law_purse cd__law_purse ct__law_purse oc__law_drawn kV__law_drawn dc__law_drawn pm__law_drawn cd__law_drawn ct__law_drawn oc__law_number kV__law_number dc__law_number pm__law_number cd__law_number ct__law_number oc__law_whole kV__law_whole dc__law_whole pm__law_whole cd__law_whole ct__law_whole oc__law_same kV__law_same dc__law_same pm__law_same cd__law_same ct__law_same oc__law_classes kV__law_classes dc__law_classes pm__law_classes cd__law_classes ct__law_classes oc__law_quotient kV__law_quotient dc__law_quotient pm__law_quotient cd__law_quotient ct__law_quotient oc_law kV_law dc_law pm_law cd_law ct_law : Value} {t_PRIME : Tok} {t_Dark t_Down t_Hidden t_Lost t_NoBook t_NoCard t_NoHomes t_NoHour t_NoHouse t_NoLevel t_NoMoves t_NoName t_NoObject t_NoOrder t_NoPlace t_NoRest t_NoRoom t_NoRow t_NoShape t_NoText t_NoTicket t_NoWeight t_NotAll t_NotEmpty t_SherdError t_Stale t_Stopped t_Taken : Addr} {fI_NoRest : Addr} {nm_NoRest cq_NoRest : Str} {nN_NoRest : Addr} {cb_NoRest : List Value} {sn_NoRest : List Str} {su_NoRest : List Value} {ab_NoRest : Bool} {co_NoRest : Option Bool} {cd_NoRest iod_NoRest ian_NoRest : Option Addr} {m0_NoRest m1_NoRest m2_NoRest m3_NoRest m5_NoRest : Option Value} {ioc_NoRest ikV_NoRest idc_NoRest ipm_NoRest icd_NoRest ict_NoRest : Value} {isl_NoRest : Array (Option Value)} (X : K.In h) (G : h.Ns mainGlobals mg) (hfa : mg "law" = some (.ref fa))
    (a_plus : PySem.W.nsIn K mainGlobals "plus" = some (some (.ref f_plus)))
    (l_plus : K.lookup f_plus = some ⟨oc_plus, od_plus, .func (PySem.W.fnOf "plus" "plus" (defArgs s_plus) (defBody s_plus) (defScope s_plus) .none kV_plus dc_plus pm_plus an_plus cd_plus ct_plus), sl_plus⟩)
    (c_plus : PySem.W.codeIn K cd_plus "plus" = true)
    (k_plus : PySem.W.keepIn K (.ref f_plus) = true)
    (a_minus : PySem.W.nsIn K mainGlobals "minus" = some (some (.ref f_minus)))
    (l_minus : K.lookup f_minus = some ⟨oc_minus, od_minus, .func (PySem.W.fnOf "minus" "minus" (defArgs s_minus) (defBody s_minus) (defScope s_minus) .none kV_minus dc_minus pm_minus an_minus cd_minus ct_minus), sl_minus⟩)
    (c_minus : PySem.W.codeIn K cd_minus "minus" = true)
    (k_minus : PySem.W.keepIn K (.ref f_minus) = true)
    (a_times : PySem.W.nsIn K mainGlobals "times" = some (some (.ref f_times)))
    (l_times : K.lookup f_times = some ⟨oc_times, od_times, .func (PySem.W.fnOf "times" "times" (defArgs s_times) (defBody s_times) (defScope s_times) .none kV_times dc_times pm_times an_times cd_times ct_times), sl_times⟩)
    (c_times : PySem.W.codeIn K cd_times "times" = true)
    (k_times : PySem.W.keepIn K (.ref f_times) = true)
    (a_power : PySem.W.nsIn K mainGlobals "power" = some (some (.ref f_power)))
    (l_power : K.lookup f_power = some ⟨oc_power, od_power, .func (PySem.W.fnOf "power" "power" (defArgs s_power) (defBody s_power) (defScope s_power) .none kV_power dc_power pm_power an_power cd_power ct_power), sl_power⟩)
    (c_power : PySem.W.codeIn K cd_power "power" = true)
    (k_power : PySem.W.keepIn K (.ref f_power) = true)
    (a_over : PySem.W.nsIn K mainGlobals "over" = some (some (.ref f_over)))
    (l_over : K.lookup f_over = some ⟨oc_over, od_over, .func (PySem.W.fnOf "over" "over" (defArgs s_over) (defBody s_over) (defScope s_over) .none kV_over dc_over pm_over an_over cd_over ct_over), sl_over⟩)
    (c_over : PySem.W.codeIn K cd_over "over" = true)
    (k_over : PySem.W.keepIn K (.ref f_over) = true)
    (a__law_purse : PySem.W.nsIn K mainGlobals "_law_purse" = some (some (.ref f__law_purse)))
    (l__law_purse : K.lookup f__law_purse = some ⟨oc__law_purse, od__law_purse, .func (PySem.W.fnOf "_law_purse" "_law_purse" (defArgs s__law_purse) (defBody s__law_purse) (defScope s__law_purse) .none kV__law_purse dc__law_purse pm__law_purse an__law_purse cd__law_purse ct__law_purse), sl__law_purse⟩)
    (c__law_purse : PySem.W.codeIn K cd__law_purse "_law_purse" = true)
    (k__law_purse : PySem.W.keepIn K (.ref f__law_purse) = true)
    (a__law_drawn : PySem.W.nsIn K mainGlobals "_law_drawn" = some (some (.ref f__law_drawn)))
    (l__law_drawn : K.lookup f__law_drawn = some ⟨oc__law_drawn, od__law_drawn, .func (PySem.W.fnOf "_law_drawn" "_law_drawn" (defArgs s__law_drawn) (defBody s__law_drawn) (defScope s__law_drawn) .none kV__law_drawn dc__law_drawn pm__law_drawn an__law_drawn cd__law_drawn ct__law_drawn), sl__law_drawn⟩)
    (c__law_drawn : PySem.W.codeIn K cd__law_drawn "_law_drawn" = true)
    (k__law_drawn : PySem.W.keepIn K (.ref f__law_drawn) = true)
    (a__law_number : PySem.W.nsIn K mainGlobals "_law_number" = some (some (.ref f__law_number)))
    (l__law_number : K.lookup f__law_number = some ⟨oc__law_number, od__law_number, .func (PySem.W.fnOf "_law_number" "_law_number" (defArgs s__law_number) (defBody s__law_number) (defScope s__law_number) .none kV__law_number dc__law_number pm__law_number an__law_number cd__law_number ct__law_number), sl__law_number⟩)
    (c__law_number : PySem.W.codeIn K cd__law_number "_law_number" = true)
    (k__law_number : PySem.W.keepIn K (.ref f__law_number) = true)
    (a__law_whole : PySem.W.nsIn K mainGlobals "_law_whole" = some (some (.ref f__law_whole)))
    (l__law_whole : K.lookup f__law_whole = some ⟨oc__law_whole, od__law_whole, .func (PySem.W.fnOf "_law_whole" "_law_whole" (defArgs s__law_whole) (defBody s__law_whole) (defScope s__law_whole) .none kV__law_whole dc__law_whole pm__law_whole an__law_whole cd__law_whole ct__law_whole), sl__law_whole⟩)
    (c__law_whole : PySem.W.codeIn K cd__law_whole "_law_whole" = true)
    (k__law_whole : PySem.W.keepIn K (.ref f__law_whole) = true)
    (a__law_same : PySem.W.nsIn K mainGlobals "_law_same" = some (some (.ref f__law_same)))
    (l__law_same : K.lookup f__law_same = some ⟨oc__law_same, od__law_same, .func (PySem.W.fnOf "_law_same" "_law_same" (defArgs s__law_same) (defBody s__law_same) (defScope s__law_same) .none kV__law_same dc__law_same pm__law_same an__law_same cd__law_same ct__law_same), sl__law_same⟩)
    (c__law_same : PySem.W.codeIn K cd__law_same "_law_same" = true)
    (k__law_same : PySem.W.keepIn K (.ref f__law_same) = true)
    (a__law_classes : PySem.W.nsIn K mainGlobals "_law_classes" = some (some (.ref f__law_classes)))
    (l__law_classes : K.lookup f__law_classes = some ⟨oc__law_classes, od__law_classes, .func (PySem.W.fnOf "_law_classes" "_law_classes" (defArgs s__law_classes) (defBody s__law_classes) (defScope s__law_classes) .none kV__law_classes dc__law_classes pm__law_classes an__law_classes cd__law_classes ct__law_classes), sl__law_classes⟩)
    (c__law_classes : PySem.W.codeIn K cd__law_classes "_law_classes" = true)
    (k__law_classes : PySem.W.keepIn K (.ref f__law_classes) = true)
    (a__law_quotient : PySem.W.nsIn K mainGlobals "_law_quotient" = some (some (.ref f__law_quotient)))
    (l__law_quotient : K.lookup f__law_quotient = some ⟨oc__law_quotient, od__law_quotient, .func (PySem.W.fnOf "_law_quotient" "_law_quotient" (defArgs s__law_quotient) (defBody s__law_quotient) (defScope s__law_quotient) .none kV__law_quotient dc__law_quotient pm__law_quotient an__law_quotient cd__law_quotient ct__law_quotient), sl__law_quotient⟩)
    (c__law_quotient : PySem.W.codeIn K cd__law_quotient "_law_quotient" = true)
    (k__law_quotient : PySem.W.keepIn K (.ref f__law_quotient) = true)
    (a_law : PySem.W.nsIn K mainGlobals "law" = some (some (.ref f_law)))
    (l_law : K.lookup f_law = some ⟨oc_law, od_law, .func (PySem.W.fnOf "law" "law" (defArgs s_law) (defBody s_law) (defScope s_law) .none kV_law dc_law pm_law an_law cd_law ct_law), sl_law⟩)
    (c_law : PySem.W.codeIn K cd_law "law" = true)
    (k_law : PySem.W.keepIn K (.ref f_law) = true)
    (c_PRIME : PySem.W.nsIn K mainGlobals "PRIME" = some (some (.int 97 t_PRIME)))
    (aC_Dark : PySem.W.nsIn K mainGlobals "Dark" = some (some (.ref t_Dark)))
    (aC_Down : PySem.W.nsIn K mainGlobals "Down" = some (some (.ref t_Down)))
    (aC_Hidden : PySem.W.nsIn K mainGlobals "Hidden" = some (some (.ref t_Hidden)))
    (aC_Lost : PySem.W.nsIn K mainGlobals "Lost" = some (some (.ref t_Lost)))
    (aC_NoBook : PySem.W.nsIn K mainGlobals "NoBook" = some (some (.ref t_NoBook)))
    (aC_NoCard : PySem.W.nsIn K mainGlobals "NoCard" = some (some (.ref t_NoCard)))
    (aC_NoHomes : PySem.W.nsIn K mainGlobals "NoHomes" = some (some (.ref t_NoHomes)))
    (aC_NoHour : PySem.W.nsIn K mainGlobals "NoHour" = some (some (.ref t_NoHour)))
    (aC_NoHouse : PySem.W.nsIn K mainGlobals "NoHouse" = some (some (.ref t_NoHouse)))
    (aC_NoLevel : PySem.W.nsIn K mainGlobals "NoLevel" = some (some (.ref t_NoLevel)))
    (aC_NoMoves : PySem.W.nsIn K mainGlobals "NoMoves" = some (some (.ref t_NoMoves)))
    (aC_NoName : PySem.W.nsIn K mainGlobals "NoName" = some (some (.ref t_NoName)))
    (aC_NoObject : PySem.W.nsIn K mainGlobals "NoObject" = some (some (.ref t_NoObject)))
    (aC_NoOrder : PySem.W.nsIn K mainGlobals "NoOrder" = some (some (.ref t_NoOrder)))
    (aC_NoPlace : PySem.W.nsIn K mainGlobals "NoPlace" = some (some (.ref t_NoPlace)))
    (aC_NoRest : PySem.W.nsIn K mainGlobals "NoRest" = some (some (.ref t_NoRest)))
    (aC_NoRoom : PySem.W.nsIn K mainGlobals "NoRoom" = some (some (.ref t_NoRoom)))
    (aC_NoRow : PySem.W.nsIn K mainGlobals "NoRow" = some (some (.ref t_NoRow)))
    (aC_NoShape : PySem.W.nsIn K mainGlobals "NoShape" = some (some (.ref t_NoShape)))
    (aC_NoText : PySem.W.nsIn K mainGlobals "NoText" = some (some (.ref t_NoText)))
    (aC_NoTicket : PySem.W.nsIn K mainGlobals "NoTicket" = some (some (.ref t_NoTicket)))
    (aC_NoWeight : PySem.W.nsIn K mainGlobals "NoWeight" = some (some (.ref t_NoWeight)))
    (aC_NotAll : PySem.W.nsIn K mainGlobals "NotAll" = some (some (.ref t_NotAll)))
    (aC_NotEmpty : PySem.W.nsIn K mainGlobals "NotEmpty" = some (some (.ref t_NotEmpty)))
    (aC_SherdError : PySem.W.nsIn K mainGlobals "SherdError" = some (some (.ref t_SherdError)))
    (aC_Stale : PySem.W.nsIn K mainGlobals "Stale" = some (some (.ref t_Stale)))
    (aC_Stopped : PySem.W.nsIn K mainGlobals "Stopped" = some (some (.ref t_Stopped)))
    (aC_Taken : PySem.W.nsIn K mainGlobals "Taken" = some (some (.ref t_Taken)))
    (iS_Dark : PySem.W.isClsIn K t_Dark = true)
    (tS_Dark : PySem.W.typeIn K (.ref t_Dark) = some (.type "type"))
    (sS_Dark : PySem.W.subIn K (.ref t_Dark) (.ref t_Dark) = some true)
    (iS_Down : PySem.W.isClsIn K t_Down = true)
    (tS_Down : PySem.W.typeIn K (.ref t_Down) = some (.type "type"))
    (sS_Down : PySem.W.subIn K (.ref t_Down) (.ref t_Down) = some true)
    (iS_Hidden : PySem.W.isClsIn K t_Hidden = true)
    (tS_Hidden : PySem.W.typeIn K (.ref t_Hidden) = some (.type "type"))
    (sS_Hidden : PySem.W.subIn K (.ref t_Hidden) (.ref t_Hidden) = some true)
    (iS_Lost : PySem.W.isClsIn K t_Lost = true)
    (tS_Lost : PySem.W.typeIn K (.ref t_Lost) = some (.type "type"))
    (sS_Lost : PySem.W.subIn K (.ref t_Lost) (.ref t_Lost) = some true)
    (iS_NoBook : PySem.W.isClsIn K t_NoBook = true)
    (tS_NoBook : PySem.W.typeIn K (.ref t_NoBook) = some (.type "type"))
    (sS_NoBook : PySem.W.subIn K (.ref t_NoBook) (.ref t_NoBook) = some true)
    (iS_NoCard : PySem.W.isClsIn K t_NoCard = true)
    (tS_NoCard : PySem.W.typeIn K (.ref t_NoCard) = some (.type "type"))
    (sS_NoCard : PySem.W.subIn K (.ref t_NoCard) (.ref t_NoCard) = some true)
    (iS_NoHomes : PySem.W.isClsIn K t_NoHomes = true)
    (tS_NoHomes : PySem.W.typeIn K (.ref t_NoHomes) = some (.type "type"))
    (sS_NoHomes : PySem.W.subIn K (.ref t_NoHomes) (.ref t_NoHomes) = some true)
    (iS_NoHour : PySem.W.isClsIn K t_NoHour = true)
    (tS_NoHour : PySem.W.typeIn K (.ref t_NoHour) = some (.type "type"))
    (sS_NoHour : PySem.W.subIn K (.ref t_NoHour) (.ref t_NoHour) = some true)
    (iS_NoHouse : PySem.W.isClsIn K t_NoHouse = true)
    (tS_NoHouse : PySem.W.typeIn K (.ref t_NoHouse) = some (.type "type"))
    (sS_NoHouse : PySem.W.subIn K (.ref t_NoHouse) (.ref t_NoHouse) = some true)
    (iS_NoLevel : PySem.W.isClsIn K t_NoLevel = true)
    (tS_NoLevel : PySem.W.typeIn K (.ref t_NoLevel) = some (.type "type"))
    (sS_NoLevel : PySem.W.subIn K (.ref t_NoLevel) (.ref t_NoLevel) = some true)
    (iS_NoMoves : PySem.W.isClsIn K t_NoMoves = true)
    (tS_NoMoves : PySem.W.typeIn K (.ref t_NoMoves) = some (.type "type"))
    (sS_NoMoves : PySem.W.subIn K (.ref t_NoMoves) (.ref t_NoMoves) = some true)
    (iS_NoName : PySem.W.isClsIn K t_NoName = true)
    (tS_NoName : PySem.W.typeIn K (.ref t_NoName) = some (.type "type"))
    (sS_NoName : PySem.W.subIn K (.ref t_NoName) (.ref t_NoName) = some true)
    (iS_NoObject : PySem.W.isClsIn K t_NoObject = true)
    (tS_NoObject : PySem.W.typeIn K (.ref t_NoObject) = some (.type "type"))
    (sS_NoObject : PySem.W.subIn K (.ref t_NoObject) (.ref t_NoObject) = some true)
    (iS_NoOrder : PySem.W.isClsIn K t_NoOrder = true)
    (tS_NoOrder : PySem.W.typeIn K (.ref t_NoOrder) = some (.type "type"))
    (sS_NoOrder : PySem.W.subIn K (.ref t_NoOrder) (.ref t_NoOrder) = some true)
    (iS_NoPlace : PySem.W.isClsIn K t_NoPlace = true)
    (tS_NoPlace : PySem.W.typeIn K (.ref t_NoPlace) = some (.type "type"))
    (sS_NoPlace : PySem.W.subIn K (.ref t_NoPlace) (.ref t_NoPlace) = some true)
    (iS_NoRest : PySem.W.isClsIn K t_NoRest = true)
    (tS_NoRest : PySem.W.typeIn K (.ref t_NoRest) = some (.type "type"))
    (sS_NoRest : PySem.W.subIn K (.ref t_NoRest) (.ref t_NoRest) = some true)
    (iS_NoRoom : PySem.W.isClsIn K t_NoRoom = true)
    (tS_NoRoom : PySem.W.typeIn K (.ref t_NoRoom) = some (.type "type"))
    (sS_NoRoom : PySem.W.subIn K (.ref t_NoRoom) (.ref t_NoRoom) = some true)
    (iS_NoRow : PySem.W.isClsIn K t_NoRow = true)
    (tS_NoRow : PySem.W.typeIn K (.ref t_NoRow) = some (.type "type"))
    (sS_NoRow : PySem.W.subIn K (.ref t_NoRow) (.ref t_NoRow) = some true)
    (iS_NoShape : PySem.W.isClsIn K t_NoShape = true)
    (tS_NoShape : PySem.W.typeIn K (.ref t_NoShape) = some (.type "type"))
    (sS_NoShape : PySem.W.subIn K (.ref t_NoShape) (.ref t_NoShape) = some true)
    (iS_NoText : PySem.W.isClsIn K t_NoText = true)
    (tS_NoText : PySem.W.typeIn K (.ref t_NoText) = some (.type "type"))
    (sS_NoText : PySem.W.subIn K (.ref t_NoText) (.ref t_NoText) = some true)
    (iS_NoTicket : PySem.W.isClsIn K t_NoTicket = true)
    (tS_NoTicket : PySem.W.typeIn K (.ref t_NoTicket) = some (.type "type"))
    (sS_NoTicket : PySem.W.subIn K (.ref t_NoTicket) (.ref t_NoTicket) = some true)
    (iS_NoWeight : PySem.W.isClsIn K t_NoWeight = true)
    (tS_NoWeight : PySem.W.typeIn K (.ref t_NoWeight) = some (.type "type"))
    (sS_NoWeight : PySem.W.subIn K (.ref t_NoWeight) (.ref t_NoWeight) = some true)
    (iS_NotAll : PySem.W.isClsIn K t_NotAll = true)
    (tS_NotAll : PySem.W.typeIn K (.ref t_NotAll) = some (.type "type"))
    (sS_NotAll : PySem.W.subIn K (.ref t_NotAll) (.ref t_NotAll) = some true)
    (iS_NotEmpty : PySem.W.isClsIn K t_NotEmpty = true)
    (tS_NotEmpty : PySem.W.typeIn K (.ref t_NotEmpty) = some (.type "type"))
    (sS_NotEmpty : PySem.W.subIn K (.ref t_NotEmpty) (.ref t_NotEmpty) = some true)
    (iS_SherdError : PySem.W.isClsIn K t_SherdError = true)
    (tS_SherdError : PySem.W.typeIn K (.ref t_SherdError) = some (.type "type"))
    (sS_SherdError : PySem.W.subIn K (.ref t_SherdError) (.ref t_SherdError) = some true)
    (iS_Stale : PySem.W.isClsIn K t_Stale = true)
    (tS_Stale : PySem.W.typeIn K (.ref t_Stale) = some (.type "type"))
    (sS_Stale : PySem.W.subIn K (.ref t_Stale) (.ref t_Stale) = some true)
    (iS_Stopped : PySem.W.isClsIn K t_Stopped = true)
    (tS_Stopped : PySem.W.typeIn K (.ref t_Stopped) = some (.type "type"))
    (sS_Stopped : PySem.W.subIn K (.ref t_Stopped) (.ref t_Stopped) = some true)
    (iS_Taken : PySem.W.isClsIn K t_Taken = true)
    (tS_Taken : PySem.W.typeIn K (.ref t_Taken) = some (.type "type"))
    (sS_Taken : PySem.W.subIn K (.ref t_Taken) (.ref t_Taken) = some true)
    (eS_SherdError : PySem.W.subIn K (.ref t_SherdError) (.type "BaseException") = some true)
    (hS_SherdError : PySem.W.hasDictIn K t_SherdError = true)
    (xL_NoRest : K.lookup t_NoRest = some (excClassObj nm_NoRest cq_NoRest t_NoRest nN_NoRest cb_NoRest [.ref t_SherdError, .type "ValueError", .type "Exception", .type "BaseException", .type "object"] true sn_NoRest su_NoRest ab_NoRest co_NoRest cd_NoRest m0_NoRest m1_NoRest m2_NoRest m3_NoRest m5_NoRest "ValueError.__new__"))
    (sa_NoRest : PySem.W.findIn K (.ref t_NoRest) "__setattr__" = some (some (.builtin "object.__setattr__")))
    (ga_NoRest : PySem.W.findIn K (.ref t_NoRest) "__getattribute__" = some (some (.builtin "BaseException.__getattribute__")))
    (gg_NoRest : PySem.W.findIn K (.ref t_NoRest) "__getattr__" = some none)
    (nb_NoRest : PySem.W.findIn K (.ref t_NoRest) "number" = some none)
    (cc_NoRest : PySem.W.findIn K (.ref t_NoRest) "__class__" = some (some (.builtin "object.__class__")))
    (ii_NoRest : PySem.W.findIn K (.ref t_NoRest) "__init__" = some (some (.ref fI_NoRest)))
    (it_NoRest : PySem.W.typeIn K (.ref fI_NoRest) = some (.type "function"))
    (il_NoRest : K.lookup fI_NoRest = some ⟨ioc_NoRest, iod_NoRest, .func (PySem.W.fnOf "__init__" "NoRest.__init__" (defArgs s_NoRest_init) (defBody s_NoRest_init) (defScope s_NoRest_init) .none ikV_NoRest idc_NoRest ipm_NoRest ian_NoRest icd_NoRest ict_NoRest), isl_NoRest⟩)
    (ic_NoRest : PySem.W.codeIn K icd_NoRest "NoRest.__init__" = true)
    (ik_NoRest : PySem.W.keepIn K (.ref fI_NoRest) = true)
    (kC_NoRest : PySem.W.keepIn K (.ref t_NoRest) = true)
    (eC_NoRest : PySem.W.subIn K (.ref t_NoRest) (.type "BaseException") = some true)
    (tC_NoRest : PySem.W.typeIn K (.ref t_NoRest) = some (.type "type"))
    (hC_NoRest : PySem.W.hasDictIn K t_NoRest = true)
    (mC_NoRest : PySem.W.mroIn K t_NoRest (.type "object") = some true)
    (sg_NoRest : PySem.W.specialIn K (.builtin "object.__class__") "__get__" = some (some (.builtin "getset_descriptor.__get__")))
    (tk_NoRest : PySem.W.takesIn K (.builtin "object.__class__") = some true)
    (y_NoRest_Dark : PySem.W.subIn K (.ref t_NoRest) (.ref t_Dark) = some false)
    (y_NoRest_Down : PySem.W.subIn K (.ref t_NoRest) (.ref t_Down) = some false)
    (y_NoRest_Hidden : PySem.W.subIn K (.ref t_NoRest) (.ref t_Hidden) = some false)
    (y_NoRest_Lost : PySem.W.subIn K (.ref t_NoRest) (.ref t_Lost) = some false)
    (y_NoRest_NoBook : PySem.W.subIn K (.ref t_NoRest) (.ref t_NoBook) = some false)
    (y_NoRest_NoCard : PySem.W.subIn K (.ref t_NoRest) (.ref t_NoCard) = some false)
    (y_NoRest_NoHomes : PySem.W.subIn K (.ref t_NoRest) (.ref t_NoHomes) = some false)
    (y_NoRest_NoHour : PySem.W.subIn K (.ref t_NoRest) (.ref t_NoHour) = some false)
    (y_NoRest_NoHouse : PySem.W.subIn K (.ref t_NoRest) (.ref t_NoHouse) = some false)
    (y_NoRest_NoLevel : PySem.W.subIn K (.ref t_NoRest) (.ref t_NoLevel) = some false)
    (y_NoRest_NoMoves : PySem.W.subIn K (.ref t_NoRest) (.ref t_NoMoves) = some false)
    (y_NoRest_NoName : PySem.W.subIn K (.ref t_NoRest) (.ref t_NoName) = some false)
    (y_NoRest_NoObject : PySem.W.subIn K (.ref t_NoRest) (.ref t_NoObject) = some false)
    (y_NoRest_NoOrder : PySem.W.subIn K (.ref t_NoRest) (.ref t_NoOrder) = some false)
    (y_NoRest_NoPlace : PySem.W.subIn K (.ref t_NoRest) (.ref t_NoPlace) = some false)
    (y_NoRest_NoRest : PySem.W.subIn K (.ref t_NoRest) (.ref t_NoRest) = some true)
    (y_NoRest_NoRoom : PySem.W.subIn K (.ref t_NoRest) (.ref t_NoRoom) = some false)
    (y_NoRest_NoRow : PySem.W.subIn K (.ref t_NoRest) (.ref t_NoRow) = some false)
    (y_NoRest_NoShape : PySem.W.subIn K (.ref t_NoRest) (.ref t_NoShape) = some false)
    (y_NoRest_NoText : PySem.W.subIn K (.ref t_NoRest) (.ref t_NoText) = some false)
    (y_NoRest_NoTicket : PySem.W.subIn K (.ref t_NoRest) (.ref t_NoTicket) = some false)
    (y_NoRest_NoWeight : PySem.W.subIn K (.ref t_NoRest) (.ref t_NoWeight) = some false)
    (y_NoRest_NotAll : PySem.W.subIn K (.ref t_NoRest) (.ref t_NotAll) = some false)
    (y_NoRest_NotEmpty : PySem.W.subIn K (.ref t_NoRest) (.ref t_NotEmpty) = some false)
    (y_NoRest_SherdError : PySem.W.subIn K (.ref t_NoRest) (.ref t_SherdError) = some true)
    (y_NoRest_Stale : PySem.W.subIn K (.ref t_NoRest) (.ref t_Stale) = some false)
    (y_NoRest_Stopped : PySem.W.subIn K (.ref t_NoRest) (.ref t_Stopped) = some false)
    (y_NoRest_Taken : PySem.W.subIn K (.ref t_NoRest) (.ref t_Taken) = some false)
    (y_NoRest_ValueError : PySem.W.subIn K (.ref t_NoRest) (.type "ValueError") = some true)
    (z_ValueError : PySem.W.nsIn K mainGlobals "ValueError" = some none)
    (z_all : PySem.W.nsIn K mainGlobals "all" = some none)
    (z_bool : PySem.W.nsIn K mainGlobals "bool" = some none)
    (z_divmod : PySem.W.nsIn K mainGlobals "divmod" = some none)
    (z_int : PySem.W.nsIn K mainGlobals "int" = some none)
    (z_isinstance : PySem.W.nsIn K mainGlobals "isinstance" = some none)
    (z_len : PySem.W.nsIn K mainGlobals "len" = some none)
    (z_list : PySem.W.nsIn K mainGlobals "list" = some none)
    (z_max : PySem.W.nsIn K mainGlobals "max" = some none)
    (z_min : PySem.W.nsIn K mainGlobals "min" = some none)
    (z_range : PySem.W.nsIn K mainGlobals "range" = some none)
    (z_tuple : PySem.W.nsIn K mainGlobals "tuple" = some none)
    : ∃ fd : FuncData, (∀ (s : Shared) (v : Value), BindsTo s fd ⟨[v], []⟩ [("script", v)]) ∧ ∀ base : Heap, K.In base → base.Ns mainGlobals mg → FnOk l.prog w K mg base (L2.CX l.prog w) 11 fa fd ["script"] (SpD K fd_law) := by
  have e : fa = f_law := by
    have e := hfa.symm.trans (PySem.W.mg_of X G a_law)
    cases e
    rfl
  rw [e]
  let T : Txt K mg := {
    f_plus := f_plus, fd_plus := _, F_plus := fun_mk (st := s_plus) l_plus c_plus k_plus, g_plus := PySem.W.mg_of X G a_plus, k_plus := k_plus,
    b_plus := Kb.all ((fun_mk (st := s_plus) l_plus c_plus k_plus).binds (ps := ["one", "other"]) fun _ _ _ _ _ _ us hl => match us, hl with | [_, _], _ => rfl),
    f_minus := f_minus, fd_minus := _, F_minus := fun_mk (st := s_minus) l_minus c_minus k_minus, g_minus := PySem.W.mg_of X G a_minus, k_minus := k_minus,
    b_minus := Kb.all ((fun_mk (st := s_minus) l_minus c_minus k_minus).binds (ps := ["one", "other"]) fun _ _ _ _ _ _ us hl => match us, hl with | [_, _], _ => rfl),
    f_times := f_times, fd_times := _, F_times := fun_mk (st := s_times) l_times c_times k_times, g_times := PySem.W.mg_of X G a_times, k_times := k_times,
    b_times := Kb.all ((fun_mk (st := s_times) l_times c_times k_times).binds (ps := ["one", "other"]) fun _ _ _ _ _ _ us hl => match us, hl with | [_, _], _ => rfl),
    f_power := f_power, fd_power := _, F_power := fun_mk (st := s_power) l_power c_power k_power, g_power := PySem.W.mg_of X G a_power, k_power := k_power,
    b_power := Kb.all ((fun_mk (st := s_power) l_power c_power k_power).binds (ps := ["one", "many"]) fun _ _ _ _ _ _ us hl => match us, hl with | [_, _], _ => rfl),
    f_over := f_over, fd_over := _, F_over := fun_mk (st := s_over) l_over c_over k_over, g_over := PySem.W.mg_of X G a_over, k_over := k_over,
    b_over := Kb.all ((fun_mk (st := s_over) l_over c_over k_over).binds (ps := ["one", "other"]) fun _ _ _ _ _ _ us hl => match us, hl with | [_, _], _ => rfl),
    f__law_purse := f__law_purse, fd__law_purse := _, F__law_purse := fun_mk (st := s__law_purse) l__law_purse c__law_purse k__law_purse, g__law_purse := PySem.W.mg_of X G a__law_purse, k__law_purse := k__law_purse,
    b__law_purse := Kb.all ((fun_mk (st := s__law_purse) l__law_purse c__law_purse k__law_purse).binds (ps := ["script", "k"]) fun _ _ _ _ _ _ us hl => match us, hl with | [_, _], _ => rfl),
    f__law_drawn := f__law_drawn, fd__law_drawn := _, F__law_drawn := fun_mk (st := s__law_drawn) l__law_drawn c__law_drawn k__law_drawn, g__law_drawn := PySem.W.mg_of X G a__law_drawn, k__law_drawn := k__law_drawn,
    b__law_drawn := Kb.all ((fun_mk (st := s__law_drawn) l__law_drawn c__law_drawn k__law_drawn).binds (ps := ["purse", "many"]) fun _ _ _ _ _ _ us hl => match us, hl with | [_, _], _ => rfl),
    f__law_number := f__law_number, fd__law_number := _, F__law_number := fun_mk (st := s__law_number) l__law_number c__law_number k__law_number, g__law_number := PySem.W.mg_of X G a__law_number, k__law_number := k__law_number,
    b__law_number := Kb.all ((fun_mk (st := s__law_number) l__law_number c__law_number k__law_number).binds (ps := ["purse"]) fun _ _ _ _ _ _ us hl => match us, hl with | [_], _ => rfl),
    f__law_whole := f__law_whole, fd__law_whole := _, F__law_whole := fun_mk (st := s__law_whole) l__law_whole c__law_whole k__law_whole, g__law_whole := PySem.W.mg_of X G a__law_whole, k__law_whole := k__law_whole,
    b__law_whole := Kb.all ((fun_mk (st := s__law_whole) l__law_whole c__law_whole k__law_whole).binds (ps := ["found"]) fun _ _ _ _ _ _ us hl => match us, hl with | [_], _ => rfl),
    f__law_same := f__law_same, fd__law_same := _, F__law_same := fun_mk (st := s__law_same) l__law_same c__law_same k__law_same, g__law_same := PySem.W.mg_of X G a__law_same, k__law_same := k__law_same,
    b__law_same := Kb.all ((fun_mk (st := s__law_same) l__law_same c__law_same k__law_same).binds (ps := ["found", "due"]) fun _ _ _ _ _ _ us hl => match us, hl with | [_, _], _ => rfl),
    f__law_classes := f__law_classes, fd__law_classes := _, F__law_classes := fun_mk (st := s__law_classes) l__law_classes c__law_classes k__law_classes, g__law_classes := PySem.W.mg_of X G a__law_classes, k__law_classes := k__law_classes,
    b__law_classes := Kb.all ((fun_mk (st := s__law_classes) l__law_classes c__law_classes k__law_classes).binds (ps := ["caught"]) fun _ _ _ _ _ _ us hl => match us, hl with | [_], _ => rfl),
    f__law_quotient := f__law_quotient, fd__law_quotient := _, F__law_quotient := fun_mk (st := s__law_quotient) l__law_quotient c__law_quotient k__law_quotient, g__law_quotient := PySem.W.mg_of X G a__law_quotient, k__law_quotient := k__law_quotient,
    b__law_quotient := Kb.all ((fun_mk (st := s__law_quotient) l__law_quotient c__law_quotient k__law_quotient).binds (ps := ["one", "other"]) fun _ _ _ _ _ _ us hl => match us, hl with | [_, _], _ => rfl),
    f_law := f_law, fd_law := _, F_law := fun_mk (st := s_law) l_law c_law k_law, g_law := PySem.W.mg_of X G a_law, k_law := k_law,
    b_law := Kb.all ((fun_mk (st := s_law) l_law c_law k_law).binds (ps := ["script"]) fun _ _ _ _ _ _ us hl => match us, hl with | [_], _ => rfl),
    t_PRIME := t_PRIME, c_PRIME := PySem.W.mg_of X G c_PRIME,
    t_Dark := t_Dark, g_Dark := PySem.W.mg_of X G aC_Dark, yN_Dark := kit_non iS_Dark tS_Dark,
    t_Down := t_Down, g_Down := PySem.W.mg_of X G aC_Down, yN_Down := kit_non iS_Down tS_Down,
    t_Hidden := t_Hidden, g_Hidden := PySem.W.mg_of X G aC_Hidden, yN_Hidden := kit_non iS_Hidden tS_Hidden,
    t_Lost := t_Lost, g_Lost := PySem.W.mg_of X G aC_Lost, yN_Lost := kit_non iS_Lost tS_Lost,
    t_NoBook := t_NoBook, g_NoBook := PySem.W.mg_of X G aC_NoBook, yN_NoBook := kit_non iS_NoBook tS_NoBook,
    t_NoCard := t_NoCard, g_NoCard := PySem.W.mg_of X G aC_NoCard, yN_NoCard := kit_non iS_NoCard tS_NoCard,
    t_NoHomes := t_NoHomes, g_NoHomes := PySem.W.mg_of X G aC_NoHomes, yN_NoHomes := kit_non iS_NoHomes tS_NoHomes,
    t_NoHour := t_NoHour, g_NoHour := PySem.W.mg_of X G aC_NoHour, yN_NoHour := kit_non iS_NoHour tS_NoHour,
    t_NoHouse := t_NoHouse, g_NoHouse := PySem.W.mg_of X G aC_NoHouse, yN_NoHouse := kit_non iS_NoHouse tS_NoHouse,
    t_NoLevel := t_NoLevel, g_NoLevel := PySem.W.mg_of X G aC_NoLevel, yN_NoLevel := kit_non iS_NoLevel tS_NoLevel,
    t_NoMoves := t_NoMoves, g_NoMoves := PySem.W.mg_of X G aC_NoMoves, yN_NoMoves := kit_non iS_NoMoves tS_NoMoves,
    t_NoName := t_NoName, g_NoName := PySem.W.mg_of X G aC_NoName, yN_NoName := kit_non iS_NoName tS_NoName,
    t_NoObject := t_NoObject, g_NoObject := PySem.W.mg_of X G aC_NoObject, yN_NoObject := kit_non iS_NoObject tS_NoObject,
    t_NoOrder := t_NoOrder, g_NoOrder := PySem.W.mg_of X G aC_NoOrder, yN_NoOrder := kit_non iS_NoOrder tS_NoOrder,
    t_NoPlace := t_NoPlace, g_NoPlace := PySem.W.mg_of X G aC_NoPlace, yN_NoPlace := kit_non iS_NoPlace tS_NoPlace,
    t_NoRest := t_NoRest, g_NoRest := PySem.W.mg_of X G aC_NoRest, yN_NoRest := kit_non iS_NoRest tS_NoRest,
    t_NoRoom := t_NoRoom, g_NoRoom := PySem.W.mg_of X G aC_NoRoom, yN_NoRoom := kit_non iS_NoRoom tS_NoRoom,
    t_NoRow := t_NoRow, g_NoRow := PySem.W.mg_of X G aC_NoRow, yN_NoRow := kit_non iS_NoRow tS_NoRow,
    t_NoShape := t_NoShape, g_NoShape := PySem.W.mg_of X G aC_NoShape, yN_NoShape := kit_non iS_NoShape tS_NoShape,
    t_NoText := t_NoText, g_NoText := PySem.W.mg_of X G aC_NoText, yN_NoText := kit_non iS_NoText tS_NoText,
    t_NoTicket := t_NoTicket, g_NoTicket := PySem.W.mg_of X G aC_NoTicket, yN_NoTicket := kit_non iS_NoTicket tS_NoTicket,
    t_NoWeight := t_NoWeight, g_NoWeight := PySem.W.mg_of X G aC_NoWeight, yN_NoWeight := kit_non iS_NoWeight tS_NoWeight,
    t_NotAll := t_NotAll, g_NotAll := PySem.W.mg_of X G aC_NotAll, yN_NotAll := kit_non iS_NotAll tS_NotAll,
    t_NotEmpty := t_NotEmpty, g_NotEmpty := PySem.W.mg_of X G aC_NotEmpty, yN_NotEmpty := kit_non iS_NotEmpty tS_NotEmpty,
    t_SherdError := t_SherdError, g_SherdError := PySem.W.mg_of X G aC_SherdError, yN_SherdError := kit_non iS_SherdError tS_SherdError,
    t_Stale := t_Stale, g_Stale := PySem.W.mg_of X G aC_Stale, yN_Stale := kit_non iS_Stale tS_Stale,
    t_Stopped := t_Stopped, g_Stopped := PySem.W.mg_of X G aC_Stopped, yN_Stopped := kit_non iS_Stopped tS_Stopped,
    t_Taken := t_Taken, g_Taken := PySem.W.mg_of X G aC_Taken, yN_Taken := kit_non iS_Taken tS_Taken,
    fI_NoRest := fI_NoRest, fdI_NoRest := _, o_NoRest := ⟨⟨nm_NoRest, cq_NoRest, nN_NoRest, cb_NoRest, _, sn_NoRest, su_NoRest, ab_NoRest, co_NoRest, cd_NoRest, m0_NoRest, m1_NoRest, m2_NoRest, m3_NoRest, m5_NoRest, xL_NoRest, by rfl⟩, sa_NoRest, eC_NoRest, tC_NoRest, kC_NoRest⟩, e_NoRest := ⟨ga_NoRest, gg_NoRest, eC_NoRest, hC_NoRest, cc_NoRest, sg_NoRest, tk_NoRest, mC_NoRest⟩, n_NoRest := nb_NoRest, i_NoRest := ii_NoRest, tI_NoRest := it_NoRest, FI_NoRest := (fun_mk (st := s_NoRest_init) il_NoRest ic_NoRest ik_NoRest), bI_NoRest := (fun_mk (st := s_NoRest_init) il_NoRest ic_NoRest ik_NoRest).binds (ps := ["self", "number"]) fun _ _ _ _ _ _ us hl => match us, hl with | [_, _], _ => rfl,
    m_NoRest_SherdError := PySem.W.exm_ref eS_SherdError hS_SherdError tS_SherdError y_NoRest_SherdError,
    y_NoRest_Dark := kit_sub iS_Dark tS_Dark sS_Dark y_NoRest_Dark,
    y_NoRest_Down := kit_sub iS_Down tS_Down sS_Down y_NoRest_Down,
    y_NoRest_Hidden := kit_sub iS_Hidden tS_Hidden sS_Hidden y_NoRest_Hidden,
    y_NoRest_Lost := kit_sub iS_Lost tS_Lost sS_Lost y_NoRest_Lost,
    y_NoRest_NoBook := kit_sub iS_NoBook tS_NoBook sS_NoBook y_NoRest_NoBook,
    y_NoRest_NoCard := kit_sub iS_NoCard tS_NoCard sS_NoCard y_NoRest_NoCard,
    y_NoRest_NoHomes := kit_sub iS_NoHomes tS_NoHomes sS_NoHomes y_NoRest_NoHomes,
    y_NoRest_NoHour := kit_sub iS_NoHour tS_NoHour sS_NoHour y_NoRest_NoHour,
    y_NoRest_NoHouse := kit_sub iS_NoHouse tS_NoHouse sS_NoHouse y_NoRest_NoHouse,
    y_NoRest_NoLevel := kit_sub iS_NoLevel tS_NoLevel sS_NoLevel y_NoRest_NoLevel,
    y_NoRest_NoMoves := kit_sub iS_NoMoves tS_NoMoves sS_NoMoves y_NoRest_NoMoves,
    y_NoRest_NoName := kit_sub iS_NoName tS_NoName sS_NoName y_NoRest_NoName,
    y_NoRest_NoObject := kit_sub iS_NoObject tS_NoObject sS_NoObject y_NoRest_NoObject,
    y_NoRest_NoOrder := kit_sub iS_NoOrder tS_NoOrder sS_NoOrder y_NoRest_NoOrder,
    y_NoRest_NoPlace := kit_sub iS_NoPlace tS_NoPlace sS_NoPlace y_NoRest_NoPlace,
    y_NoRest_NoRest := kit_sub iS_NoRest tS_NoRest sS_NoRest y_NoRest_NoRest,
    y_NoRest_NoRoom := kit_sub iS_NoRoom tS_NoRoom sS_NoRoom y_NoRest_NoRoom,
    y_NoRest_NoRow := kit_sub iS_NoRow tS_NoRow sS_NoRow y_NoRest_NoRow,
    y_NoRest_NoShape := kit_sub iS_NoShape tS_NoShape sS_NoShape y_NoRest_NoShape,
    y_NoRest_NoText := kit_sub iS_NoText tS_NoText sS_NoText y_NoRest_NoText,
    y_NoRest_NoTicket := kit_sub iS_NoTicket tS_NoTicket sS_NoTicket y_NoRest_NoTicket,
    y_NoRest_NoWeight := kit_sub iS_NoWeight tS_NoWeight sS_NoWeight y_NoRest_NoWeight,
    y_NoRest_NotAll := kit_sub iS_NotAll tS_NotAll sS_NotAll y_NoRest_NotAll,
    y_NoRest_NotEmpty := kit_sub iS_NotEmpty tS_NotEmpty sS_NotEmpty y_NoRest_NotEmpty,
    y_NoRest_SherdError := kit_sub iS_SherdError tS_SherdError sS_SherdError y_NoRest_SherdError,
    y_NoRest_Stale := kit_sub iS_Stale tS_Stale sS_Stale y_NoRest_Stale,
    y_NoRest_Stopped := kit_sub iS_Stopped tS_Stopped sS_Stopped y_NoRest_Stopped,
    y_NoRest_Taken := kit_sub iS_Taken tS_Taken sS_Taken y_NoRest_Taken,
    y_NoRest_ValueError := kit_vE y_NoRest_ValueError,
    b_ValueError := PySem.W.mg_none_of X G z_ValueError,
    b_all := PySem.W.mg_none_of X G z_all,
    b_bool := PySem.W.mg_none_of X G z_bool,
    b_divmod := PySem.W.mg_none_of X G z_divmod,
    b_int := PySem.W.mg_none_of X G z_int,
    b_isinstance := PySem.W.mg_none_of X G z_isinstance,
    b_len := PySem.W.mg_none_of X G z_len,
    b_list := PySem.W.mg_none_of X G z_list,
    b_max := PySem.W.mg_none_of X G z_max,
    b_min := PySem.W.mg_none_of X G z_min,
    b_range := PySem.W.mg_none_of X G z_range,
    b_tuple := PySem.W.mg_none_of X G z_tuple }
  exact ⟨_, fun s v => .of_eq rfl, fun base _ _ => ok_law T⟩
end Lw
open PySem PySem.W PyProof.Rows
set_option maxRecDepth 100000 in
set_option maxHeartbeats 0 in
theorem PySem.Challenge.cw_sherdhall_k01_numbers_by_97_holds : PySem.Challenge.rw_sherdhall_k01_numbers_by_97.Holds := by
  w_on; o_law; k_head; (case hw => w_witness2)
  k_fill
  refine L2.walk_ofB (l := PySem.Challenge.rw_sherdhall_k01_numbers_by_97) (n := 63) (k := 11) (x := "script") (CX := fun w => L2.CX PySem.Challenge.rw_sherdhall_k01_numbers_by_97.prog w) (sp := fun w => Sh.SpD _ Lw.fd_law) rfl (by decide) rfl ⟨rfl, by decide, by decide⟩ (fun w h Y => PySem.W.kIn_of Y) ?F (fun w H a ns hl hb hO hS => Sh.law_in rfl (fun ns _ _ => Lw.dom_law ns) Lw.cost_law (fun _ _ q => q) (fun _ _ _ q => q) hl hb hO hS) (fun w H s e s' h => Sh.law_cx h)
  case F =>
    intro w mg fa h KX G hmg
    refine' Lw.all_mk KX G hmg ?a_plus ?l_plus ?c_plus ?k_plus ?a_minus ?l_minus ?c_minus ?k_minus ?a_times ?l_times ?c_times ?k_times ?a_power ?l_power ?c_power ?k_power ?a_over ?l_over ?c_over ?k_over ?a__law_purse ?l__law_purse ?c__law_purse ?k__law_purse ?a__law_drawn ?l__law_drawn ?c__law_drawn ?k__law_drawn ?a__law_number ?l__law_number ?c__law_number ?k__law_number ?a__law_whole ?l__law_whole ?c__law_whole ?k__law_whole ?a__law_same ?l__law_same ?c__law_same ?k__law_same ?a__law_classes ?l__law_classes ?c__law_classes ?k__law_classes ?a__law_quotient ?l__law_quotient ?c__law_quotient ?k__law_quotient ?a_law ?l_law ?c_law ?k_law ?c_PRIME ?aC_Dark ?aC_Down ?aC_Hidden ?aC_Lost ?aC_NoBook ?aC_NoCard ?aC_NoHomes ?aC_NoHour ?aC_NoHouse ?aC_NoLevel ?aC_NoMoves ?aC_NoName ?aC_NoObject ?aC_NoOrder ?aC_NoPlace ?aC_NoRest ?aC_NoRoom ?aC_NoRow ?aC_NoShape ?aC_NoText ?aC_NoTicket ?aC_NoWeight ?aC_NotAll ?aC_NotEmpty ?aC_SherdError ?aC_Stale ?aC_Stopped ?aC_Taken ?iS_Dark ?tS_Dark ?sS_Dark ?iS_Down ?tS_Down ?sS_Down ?iS_Hidden ?tS_Hidden ?sS_Hidden ?iS_Lost ?tS_Lost ?sS_Lost ?iS_NoBook ?tS_NoBook ?sS_NoBook ?iS_NoCard ?tS_NoCard ?sS_NoCard ?iS_NoHomes ?tS_NoHomes ?sS_NoHomes ?iS_NoHour ?tS_NoHour ?sS_NoHour ?iS_NoHouse ?tS_NoHouse ?sS_NoHouse ?iS_NoLevel ?tS_NoLevel ?sS_NoLevel ?iS_NoMoves ?tS_NoMoves ?sS_NoMoves ?iS_NoName ?tS_NoName ?sS_NoName ?iS_NoObject ?tS_NoObject ?sS_NoObject ?iS_NoOrder ?tS_NoOrder ?sS_NoOrder ?iS_NoPlace ?tS_NoPlace ?sS_NoPlace ?iS_NoRest ?tS_NoRest ?sS_NoRest ?iS_NoRoom ?tS_NoRoom ?sS_NoRoom ?iS_NoRow ?tS_NoRow ?sS_NoRow ?iS_NoShape ?tS_NoShape ?sS_NoShape ?iS_NoText ?tS_NoText ?sS_NoText ?iS_NoTicket ?tS_NoTicket ?sS_NoTicket ?iS_NoWeight ?tS_NoWeight ?sS_NoWeight ?iS_NotAll ?tS_NotAll ?sS_NotAll ?iS_NotEmpty ?tS_NotEmpty ?sS_NotEmpty ?iS_SherdError ?tS_SherdError ?sS_SherdError ?iS_Stale ?tS_Stale ?sS_Stale ?iS_Stopped ?tS_Stopped ?sS_Stopped ?iS_Taken ?tS_Taken ?sS_Taken ?eS_SherdError ?hS_SherdError ?xL_NoRest ?sa_NoRest ?ga_NoRest ?gg_NoRest ?nb_NoRest ?cc_NoRest ?ii_NoRest ?it_NoRest ?il_NoRest ?ic_NoRest ?ik_NoRest ?kC_NoRest ?eC_NoRest ?tC_NoRest ?hC_NoRest ?mC_NoRest ?sg_NoRest ?tk_NoRest ?y_NoRest_Dark ?y_NoRest_Down ?y_NoRest_Hidden ?y_NoRest_Lost ?y_NoRest_NoBook ?y_NoRest_NoCard ?y_NoRest_NoHomes ?y_NoRest_NoHour ?y_NoRest_NoHouse ?y_NoRest_NoLevel ?y_NoRest_NoMoves ?y_NoRest_NoName ?y_NoRest_NoObject ?y_NoRest_NoOrder ?y_NoRest_NoPlace ?y_NoRest_NoRest ?y_NoRest_NoRoom ?y_NoRest_NoRow ?y_NoRest_NoShape ?y_NoRest_NoText ?y_NoRest_NoTicket ?y_NoRest_NoWeight ?y_NoRest_NotAll ?y_NoRest_NotEmpty ?y_NoRest_SherdError ?y_NoRest_Stale ?y_NoRest_Stopped ?y_NoRest_Taken ?y_NoRest_ValueError ?z_ValueError ?z_all ?z_bool ?z_divmod ?z_int ?z_isinstance ?z_len ?z_list ?z_max ?z_min ?z_range ?z_tuple
    (case a_plus => k_is); (case l_plus => k_is); (case c_plus => k_is); (case k_plus => k_is); (case a_minus => k_is); (case l_minus => k_is); (case c_minus => k_is); (case k_minus => k_is); (case a_times => k_is); (case l_times => k_is); (case c_times => k_is); (case k_times => k_is); (case a_power => k_is); (case l_power => k_is); (case c_power => k_is); (case k_power => k_is); (case a_over => k_is); (case l_over => k_is); (case c_over => k_is); (case k_over => k_is); (case a__law_purse => k_is); (case l__law_purse => k_is); (case c__law_purse => k_is); (case k__law_purse => k_is); (case a__law_drawn => k_is); (case l__law_drawn => k_is); (case c__law_drawn => k_is); (case k__law_drawn => k_is); (case a__law_number => k_is); (case l__law_number => k_is); (case c__law_number => k_is); (case k__law_number => k_is); (case a__law_whole => k_is); (case l__law_whole => k_is); (case c__law_whole => k_is); (case k__law_whole => k_is); (case a__law_same => k_is); (case l__law_same => k_is); (case c__law_same => k_is); (case k__law_same => k_is); (case a__law_classes => k_is); (case l__law_classes => k_is); (case c__law_classes => k_is); (case k__law_classes => k_is); (case a__law_quotient => k_is); (case l__law_quotient => k_is); (case c__law_quotient => k_is); (case k__law_quotient => k_is); (case a_law => k_is); (case l_law => k_is); (case c_law => k_is); (case k_law => k_is); (case c_PRIME => k_is); (case aC_Dark => k_is); (case aC_Down => k_is); (case aC_Hidden => k_is); (case aC_Lost => k_is); (case aC_NoBook => k_is); (case aC_NoCard => k_is); (case aC_NoHomes => k_is); (case aC_NoHour => k_is); (case aC_NoHouse => k_is); (case aC_NoLevel => k_is); (case aC_NoMoves => k_is); (case aC_NoName => k_is); (case aC_NoObject => k_is); (case aC_NoOrder => k_is); (case aC_NoPlace => k_is); (case aC_NoRest => k_is); (case aC_NoRoom => k_is); (case aC_NoRow => k_is); (case aC_NoShape => k_is); (case aC_NoText => k_is); (case aC_NoTicket => k_is); (case aC_NoWeight => k_is); (case aC_NotAll => k_is); (case aC_NotEmpty => k_is); (case aC_SherdError => k_is); (case aC_Stale => k_is); (case aC_Stopped => k_is); (case aC_Taken => k_is); (case iS_Dark => k_is); (case tS_Dark => k_is); (case sS_Dark => first | k_is | rfl); (case iS_Down => k_is); (case tS_Down => k_is); (case sS_Down => first | k_is | rfl); (case iS_Hidden => k_is); (case tS_Hidden => k_is); (case sS_Hidden => first | k_is | rfl); (case iS_Lost => k_is); (case tS_Lost => k_is); (case sS_Lost => first | k_is | rfl); (case iS_NoBook => k_is); (case tS_NoBook => k_is); (case sS_NoBook => first | k_is | rfl); (case iS_NoCard => k_is); (case tS_NoCard => k_is); (case sS_NoCard => first | k_is | rfl); (case iS_NoHomes => k_is); (case tS_NoHomes => k_is); (case sS_NoHomes => first | k_is | rfl); (case iS_NoHour => k_is); (case tS_NoHour => k_is); (case sS_NoHour => first | k_is | rfl); (case iS_NoHouse => k_is); (case tS_NoHouse => k_is); (case sS_NoHouse => first | k_is | rfl); (case iS_NoLevel => k_is); (case tS_NoLevel => k_is); (case sS_NoLevel => first | k_is | rfl); (case iS_NoMoves => k_is); (case tS_NoMoves => k_is); (case sS_NoMoves => first | k_is | rfl); (case iS_NoName => k_is); (case tS_NoName => k_is); (case sS_NoName => first | k_is | rfl); (case iS_NoObject => k_is); (case tS_NoObject => k_is); (case sS_NoObject => first | k_is | rfl); (case iS_NoOrder => k_is); (case tS_NoOrder => k_is); (case sS_NoOrder => first | k_is | rfl); (case iS_NoPlace => k_is); (case tS_NoPlace => k_is); (case sS_NoPlace => first | k_is | rfl); (case iS_NoRest => k_is); (case tS_NoRest => k_is); (case sS_NoRest => first | k_is | rfl); (case iS_NoRoom => k_is); (case tS_NoRoom => k_is); (case sS_NoRoom => first | k_is | rfl); (case iS_NoRow => k_is); (case tS_NoRow => k_is); (case sS_NoRow => first | k_is | rfl); (case iS_NoShape => k_is); (case tS_NoShape => k_is); (case sS_NoShape => first | k_is | rfl); (case iS_NoText => k_is); (case tS_NoText => k_is); (case sS_NoText => first | k_is | rfl); (case iS_NoTicket => k_is); (case tS_NoTicket => k_is); (case sS_NoTicket => first | k_is | rfl); (case iS_NoWeight => k_is); (case tS_NoWeight => k_is); (case sS_NoWeight => first | k_is | rfl); (case iS_NotAll => k_is); (case tS_NotAll => k_is); (case sS_NotAll => first | k_is | rfl); (case iS_NotEmpty => k_is); (case tS_NotEmpty => k_is); (case sS_NotEmpty => first | k_is | rfl); (case iS_SherdError => k_is); (case tS_SherdError => k_is); (case sS_SherdError => first | k_is | rfl); (case iS_Stale => k_is); (case tS_Stale => k_is); (case sS_Stale => first | k_is | rfl); (case iS_Stopped => k_is); (case tS_Stopped => k_is); (case sS_Stopped => first | k_is | rfl); (case iS_Taken => k_is); (case tS_Taken => k_is); (case sS_Taken => first | k_is | rfl); (case eS_SherdError => k_is); (case hS_SherdError => k_is); (case xL_NoRest => k_is); (case sa_NoRest => k_is); (case ga_NoRest => k_is); (case gg_NoRest => k_is); (case nb_NoRest => k_is); (case cc_NoRest => k_is); (case ii_NoRest => k_is); (case it_NoRest => k_is); (case il_NoRest => k_is); (case ic_NoRest => k_is); (case ik_NoRest => k_is); (case kC_NoRest => k_is); (case eC_NoRest => k_is); (case tC_NoRest => k_is); (case hC_NoRest => k_is); (case mC_NoRest => k_is); (case sg_NoRest => k_is); (case tk_NoRest => k_is); (case y_NoRest_Dark => first | k_is | rfl); (case y_NoRest_Down => first | k_is | rfl); (case y_NoRest_Hidden => first | k_is | rfl); (case y_NoRest_Lost => first | k_is | rfl); (case y_NoRest_NoBook => first | k_is | rfl); (case y_NoRest_NoCard => first | k_is | rfl); (case y_NoRest_NoHomes => first | k_is | rfl); (case y_NoRest_NoHour => first | k_is | rfl); (case y_NoRest_NoHouse => first | k_is | rfl); (case y_NoRest_NoLevel => first | k_is | rfl); (case y_NoRest_NoMoves => first | k_is | rfl); (case y_NoRest_NoName => first | k_is | rfl); (case y_NoRest_NoObject => first | k_is | rfl); (case y_NoRest_NoOrder => first | k_is | rfl); (case y_NoRest_NoPlace => first | k_is | rfl); (case y_NoRest_NoRest => first | k_is | rfl); (case y_NoRest_NoRoom => first | k_is | rfl); (case y_NoRest_NoRow => first | k_is | rfl); (case y_NoRest_NoShape => first | k_is | rfl); (case y_NoRest_NoText => first | k_is | rfl); (case y_NoRest_NoTicket => first | k_is | rfl); (case y_NoRest_NoWeight => first | k_is | rfl); (case y_NoRest_NotAll => first | k_is | rfl); (case y_NoRest_NotEmpty => first | k_is | rfl); (case y_NoRest_SherdError => first | k_is | rfl); (case y_NoRest_Stale => first | k_is | rfl); (case y_NoRest_Stopped => first | k_is | rfl); (case y_NoRest_Taken => first | k_is | rfl); (case y_NoRest_ValueError => first | k_is | rfl); (case z_ValueError => k_is); (case z_all => k_is); (case z_bool => k_is); (case z_divmod => k_is); (case z_int => k_is); (case z_isinstance => k_is); (case z_len => k_is); (case z_list => k_is); (case z_max => k_is); (case z_min => k_is); (case z_range => k_is); (case z_tuple => k_is)

