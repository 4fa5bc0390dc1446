import PyProof.Rows.All
import Wide.All
import OpenK.AllK
import Wide.FinOn
import HandS.Base
import HandS.Call
import HandS.List
import HandS.Comp
import HandS.Ends
import HandS.Dict
import HandS.Iter
import HandS.Walk
import HandS.Exc
import HandS.ExcOwn
import HandS.TryOnly
import HandS.Words
import HandS.WordsExc
import HandS.CallSlots
import HandS.HeadHook1
import HandS.TupAny
import HandS.TupLe
import HandS.IsInst
import HandS.RaiseMore
import HandS.Defaults
import HandS.Zip
import KE.GoesMore
import KE.GoesEnum
import HandS.SetKeys
import HandS.Conv
import HandS.More
import HandS.WordsDict
import HandS.WordsList
import HandS.TupLen
import PyProof.ReprReads
import KE.KDictCopyH
import HandS.DictComp
import HandS.TupMul
import HandS.TupSets
import KE.KDictDisplayH
import KE.SortData
import PyProof.CallFns
import KE.KItemsList
import HandS.ListItems
import KE.KStateDown
import HandS.Head0
import HandS.Head1
import HandS.Head2
import HandS.HeadEnd
import HandS.HeadHook2
import PySem.Challenge.RW_placefigures_k97_whole_tails_that_part_s
set_option Elab.async false
set_option linter.all false
set_option maxRecDepth 100000
set_option maxHeartbeats 4000000
/-! Fx: a functional reading of the hand layer: abstract data, an abstract store, mirrors as functions. -/
namespace Fx
open PySem PySem.Spec PyProof.Rows L2

abbrev St := L2.St
/-- abstract data: flat things, tuples by what they hold, mutable objects by their place in the store -/
inductive D where
  | non | bl (b : Bool) | int (i : Int) | str (x : Str) | tup (ds : List D) | loc (n : Nat) | kl (a : Addr)
/-- mutable objects -/
inductive MO where
  | lst (xs : List D)
  | rdl (xs : List D)
  | dK (kvs : List (Key × D))
  | dT (kvs : List (List Key × D))
  | fK (kvs : List (Key × D))
  | fT (kvs : List (List Key × D))
  | ins (C : Str) (fs : List (Str × D))
abbrev Store := List MO
abbrev En := List (Option D)
inductive Res (α : Type) where
  | ok (a : α) (st : Store)
  | err (C : Str) (fs : List (Str × D)) (st : Store)
  | stuck
def Res.bind {α β : Type} (r : Res α) (f : α → Store → Res β) : Res β := match r with
  | .ok a st => f a st
  | .err C fs st => .err C fs st
  | .stuck => .stuck
@[simp] theorem Res.bind_ok {α β : Type} (a : α) (st : Store) (f : α → Store → Res β) : (Res.ok a st).bind f = f a st := rfl
@[simp] theorem Res.bind_err {α β : Type} (C fs st) (f : α → Store → Res β) : (Res.err C fs st : Res α).bind f = .err C fs st := rfl
@[simp] theorem Res.bind_stuck {α β : Type} (f : α → Store → Res β) : (Res.stuck : Res α).bind f = .stuck := rfl
abbrev EM := En → Store → Res D
abbrev AM := En → Store → Res (List D)
abbrev BM := En → Store → Res Bool
abbrev FM := List D → Store → Res D

/-! ### what data stand for -/
mutual
inductive Rl (ρ : List Addr) (H : Hp) : D → V → Prop
  | non : Rl ρ H .non .non
  | bl {b} : Rl ρ H (.bl b) (.bl b)
  | int {i} : Rl ρ H (.int i) (.int i)
  | str {x} : Rl ρ H (.str x) (.str x)
  | tup {ds a vs} : H a = some (.tup vs) → vs.length ≤ sizeLine → RlL ρ H ds vs → Rl ρ H (.tup ds) (.ref a)
  | loc {n a} : ρ[n]? = some a → Rl ρ H (.loc n) (.ref a)
  | kl {a} : Rl ρ H (.kl a) (.ref a)
inductive RlL (ρ : List Addr) (H : Hp) : List D → List V → Prop
  | nil : RlL ρ H [] []
  | cons {d v ds vs} : Rl ρ H d v → RlL ρ H ds vs → RlL ρ H (d :: ds) (v :: vs)
end
structure Ext (ρ : List Addr) (H : Hp) (ρ' : List Addr) (H' : Hp) : Prop where
  pre : ∃ t, ρ' = ρ ++ t
  im : ∀ b xs, H b = some (.tup xs) → H' b = some (.tup xs)
  fz : ∀ b o u, H b = some (.frz o u) → H' b = some (.frz o u)
theorem Ext.refl {ρ H} : Ext ρ H ρ H := ⟨⟨[], by simp⟩, fun _ _ h => h, fun _ _ _ h => h⟩
theorem Ext.trans {ρ H ρ1 H1 ρ2 H2} (a : Ext ρ H ρ1 H1) (b : Ext ρ1 H1 ρ2 H2) : Ext ρ H ρ2 H2 := by
  obtain ⟨⟨t, rfl⟩, f, f'⟩ := a
  obtain ⟨⟨u, rfl⟩, g, g'⟩ := b
  exact ⟨⟨t ++ u, by simp⟩, fun c xs h => g c xs (f c xs h), fun c o u h => g' c o u (f' c o u h)⟩
theorem Ext.at {ρ H ρ' H'} (e : Ext ρ H ρ' H') {n : Nat} {a : Addr} (h : ρ[n]? = some a) : ρ'[n]? = some a := by
  obtain ⟨⟨t, rfl⟩, _, _⟩ := e
  rw [List.getElem?_append_left (List.getElem?_eq_some_iff.mp h).1]
  exact h
mutual
theorem Rl.mono {ρ H ρ' H'} (e : Ext ρ H ρ' H') : ∀ {d v}, Rl ρ H d v → Rl ρ' H' d v
  | _, _, .non => .non
  | _, _, .bl => .bl
  | _, _, .int => .int
  | _, _, .str => .str
  | _, _, .tup h hz r => .tup (e.im _ _ h) hz (RlL.mono e r)
  | _, _, .loc h => .loc (e.at h)
  | _, _, .kl => .kl
theorem RlL.mono {ρ H ρ' H'} (e : Ext ρ H ρ' H') : ∀ {ds vs}, RlL ρ H ds vs → RlL ρ' H' ds vs
  | _, _, .nil => .nil
  | _, _, .cons r q => .cons (Rl.mono e r) (RlL.mono e q)
end
theorem RlL.length {ρ H} : ∀ {ds : List D} {vs : List V}, RlL ρ H ds vs → ds.length = vs.length
  | _, _, .nil => rfl
  | _, _, .cons _ q => by simp [RlL.length q]
theorem RlL.get {ρ H} : ∀ {ds : List D} {vs : List V} {i : Nat} {v : V}, RlL ρ H ds vs → vs[i]? = some v → ∃ d, ds[i]? = some d ∧ Rl ρ H d v
  | _, _, _, _, .nil, h => by simp at h
  | _, _, 0, _, .cons r _, h => by simp at h; subst h; exact ⟨_, rfl, r⟩
  | _, _, i + 1, v, .cons _ q, h => by
    obtain ⟨d, h1, h2⟩ := RlL.get (i := i) (v := v) q (by simpa using h)
    exact ⟨d, by simpa using h1, h2⟩
theorem RlL.get' {ρ H} : ∀ {ds : List D} {vs : List V} {i : Nat} {d : D}, RlL ρ H ds vs → ds[i]? = some d → ∃ v, vs[i]? = some v ∧ Rl ρ H d v
  | _, _, _, _, .nil, h => by simp at h
  | _, _, 0, _, .cons r _, h => by simp at h; subst h; exact ⟨_, rfl, r⟩
  | _, _, i + 1, v, .cons _ q, h => by
    obtain ⟨d, h1, h2⟩ := RlL.get' (i := i) (d := v) q (by simpa using h)
    exact ⟨d, by simpa using h1, h2⟩
theorem RlL.append {ρ H} : ∀ {ds es : List D} {vs ws : List V}, RlL ρ H ds vs → RlL ρ H es ws → RlL ρ H (ds ++ es) (vs ++ ws)
  | _, _, _, _, .nil, s => s
  | _, _, _, _, .cons r q, s => .cons r (RlL.append q s)
theorem RlL.set {ρ H} {d : D} {v : V} (r : Rl ρ H d v) : ∀ {ds : List D} {vs : List V} (i : Nat), RlL ρ H ds vs → RlL ρ H (ds.set i d) (vs.set i v)
  | _, _, _, .nil => .nil
  | _, _, 0, .cons _ q => .cons r q
  | _, _, i + 1, .cons p q => .cons p (RlL.set r i q)
theorem RlL.take {ρ H} : ∀ {ds : List D} {vs : List V} (n : Nat), RlL ρ H ds vs → RlL ρ H (ds.take n) (vs.take n)
  | _, _, 0, _ => by simp; exact .nil
  | _, _, _ + 1, .nil => .nil
  | _, _, n + 1, .cons r q => .cons r (RlL.take n q)
theorem RlL.drop {ρ H} : ∀ {ds : List D} {vs : List V} (n : Nat), RlL ρ H ds vs → RlL ρ H (ds.drop n) (vs.drop n)
  | _, _, 0, q => q
  | _, _, _ + 1, .nil => .nil
  | _, _, n + 1, .cons _ q => RlL.drop n q
theorem RlL.reverse {ρ H} : ∀ {ds : List D} {vs : List V}, RlL ρ H ds vs → RlL ρ H ds.reverse vs.reverse
  | _, _, .nil => .nil
  | _, _, .cons r q => by
    rw [List.reverse_cons, List.reverse_cons]
    exact (RlL.reverse q).append (.cons r .nil)
theorem RlL.replicate {ρ H d v} (r : Rl ρ H d v) : ∀ n : Nat, RlL ρ H (List.replicate n d) (List.replicate n v)
  | 0 => .nil
  | n + 1 => .cons r (RlL.replicate r n)
theorem RlL.flat {ρ H} : ∀ {ds : List (List D)} {vs : List (List V)}, Paired (RlL ρ H) ds vs → RlL ρ H ds.flatten vs.flatten
  | _, _, .nil => .nil
  | _, _, .cons r q => RlL.append r (RlL.flat q)
/-- pairs of keys and values -/
abbrev KRl {κ : Type} (ρ : List Addr) (H : Hp) : List (κ × D) → List (κ × V) → Prop := Paired fun (p : κ × D) (q : κ × V) => p.1 = q.1 ∧ Rl ρ H p.2 q.2
theorem KRl.mono {κ : Type} {ρ H ρ' H'} (e : Ext ρ H ρ' H') : ∀ {ps : List (κ × D)} {qs : List (κ × V)}, KRl ρ H ps qs → KRl ρ' H' ps qs
  | _, _, .nil => .nil
  | _, _, .cons r q => .cons ⟨r.1, r.2.mono e⟩ (KRl.mono e q)
mutual
theorem Rl.im {ρ H H'} (e : ∀ b xs, H b = some (.tup xs) → H' b = some (.tup xs)) : ∀ {d v}, Rl ρ H d v → Rl ρ H' d v
  | _, _, .non => .non
  | _, _, .bl => .bl
  | _, _, .int => .int
  | _, _, .str => .str
  | _, _, .tup h hz r => .tup (e _ _ h) hz (RlL.im e r)
  | _, _, .loc h => .loc h
  | _, _, .kl => .kl
theorem RlL.im {ρ H H'} (e : ∀ b xs, H b = some (.tup xs) → H' b = some (.tup xs)) : ∀ {ds vs}, RlL ρ H ds vs → RlL ρ H' ds vs
  | _, _, .nil => .nil
  | _, _, .cons r q => .cons (Rl.im e r) (RlL.im e q)
end
theorem KRl.im {κ : Type} {ρ H H'} (e : ∀ b xs, H b = some (.tup xs) → H' b = some (.tup xs)) : ∀ {ps : List (κ × D)} {qs : List (κ × V)}, KRl ρ H ps qs → KRl ρ H' ps qs
  | _, _, .nil => .nil
  | _, _, .cons r q => .cons ⟨r.1, r.2.im e⟩ (KRl.im e q)
theorem paired_length {α β : Type} {F : α → β → Prop} : ∀ {l : List α} {m : List β}, Paired F l m → l.length = m.length
  | _, _, .nil => rfl
  | _, _, .cons _ q => by simp [paired_length q]

/-! ### the store -/
def Co (K : PySem.W.Frag) (ρ : List Addr) (H : Hp) (a : Addr) : MO → Prop
  | .lst ds => ∃ vs, H a = some (.lst vs) ∧ vs.length ≤ sizeLine ∧ RlL ρ H ds vs
  | .rdl ds => ∃ o vs, H a = some (.frz o (.lst vs)) ∧ vs.length ≤ sizeLine ∧ RlL ρ H ds vs
  | .dK kvs => ∃ ws, H a = some (.dK ws) ∧ KRl ρ H kvs ws
  | .dT kvs => ∃ ws, H a = some (.dT ws) ∧ KRl ρ H kvs ws
  | .fK kvs => ∃ o ws, H a = some (.frz o (.dK ws)) ∧ KRl ρ H kvs ws
  | .fT kvs => ∃ o ws, H a = some (.frz o (.dT ws)) ∧ KRl ρ H kvs ws
  | .ins C fs => ∃ dx ws, H a = some (.ins (He.ga K C) dx ws) ∧ KRl ρ H fs ws
theorem Co.mono {K ρ H ρ' H' a} (e : Ext ρ H ρ' H') (h : H' a = H a) : ∀ {mo}, Co K ρ H a mo → Co K ρ' H' a mo
  | .lst _, ⟨vs, h1, h2, h3⟩ => ⟨vs, h.trans h1, h2, h3.mono e⟩
  | .rdl _, ⟨o, vs, h1, h2, h3⟩ => ⟨o, vs, h.trans h1, h2, h3.mono e⟩
  | .dK _, ⟨ws, h1, h3⟩ => ⟨ws, h.trans h1, h3.mono e⟩
  | .dT _, ⟨ws, h1, h3⟩ => ⟨ws, h.trans h1, h3.mono e⟩
  | .fK _, ⟨o, ws, h1, h3⟩ => ⟨o, ws, h.trans h1, h3.mono e⟩
  | .fT _, ⟨o, ws, h1, h3⟩ => ⟨o, ws, h.trans h1, h3.mono e⟩
  | .ins _ _, ⟨dx, ws, h1, h3⟩ => ⟨dx, ws, h.trans h1, h3.mono e⟩
theorem Co.im {K ρ H H' a} (e : ∀ b xs, H b = some (.tup xs) → H' b = some (.tup xs)) (h : H' a = H a) : ∀ {mo}, Co K ρ H a mo → Co K ρ H' a mo
  | .lst _, ⟨vs, h1, h2, h3⟩ => ⟨vs, h.trans h1, h2, h3.im e⟩
  | .rdl _, ⟨o, vs, h1, h2, h3⟩ => ⟨o, vs, h.trans h1, h2, h3.im e⟩
  | .dK _, ⟨ws, h1, h3⟩ => ⟨ws, h.trans h1, h3.im e⟩
  | .dT _, ⟨ws, h1, h3⟩ => ⟨ws, h.trans h1, h3.im e⟩
  | .fK _, ⟨o, ws, h1, h3⟩ => ⟨o, ws, h.trans h1, h3.im e⟩
  | .fT _, ⟨o, ws, h1, h3⟩ => ⟨o, ws, h.trans h1, h3.im e⟩
  | .ins _ _, ⟨dx, ws, h1, h3⟩ => ⟨dx, ws, h.trans h1, h3.im e⟩
theorem Co.has {K ρ H a} : ∀ {mo}, Co K ρ H a mo → ∃ o, H a = some o ∧ ∀ xs, o ≠ .tup xs
  | .lst _, ⟨_, h, _⟩ => ⟨_, h, fun _ z => nomatch z⟩
  | .rdl _, ⟨_, _, h, _⟩ => ⟨_, h, fun _ z => nomatch z⟩
  | .dK _, ⟨_, h, _⟩ => ⟨_, h, fun _ z => nomatch z⟩
  | .dT _, ⟨_, h, _⟩ => ⟨_, h, fun _ z => nomatch z⟩
  | .fK _, ⟨_, _, h, _⟩ => ⟨_, h, fun _ z => nomatch z⟩
  | .fT _, ⟨_, _, h, _⟩ => ⟨_, h, fun _ z => nomatch z⟩
  | .ins _ _, ⟨_, _, h, _⟩ => ⟨_, h, fun _ z => nomatch z⟩
structure Ok (K : PySem.W.Frag) (ρ : List Addr) (st : Store) (H : Hp) : Prop where
  len : ρ.length = st.length
  nd : ρ.Nodup
  ob : ∀ (n : Nat) (mo : MO) (a : Addr), st[n]? = some mo → ρ[n]? = some a → Co K ρ H a mo
section
variable {K : PySem.W.Frag} {ρ : List Addr} {st : Store} {H : Hp}
theorem Ok.has (k : Ok K ρ st H) {n : Nat} {a : Addr} (h : ρ[n]? = some a) : ∃ mo, st[n]? = some mo ∧ Co K ρ H a mo := by
  have hn := (List.getElem?_eq_some_iff.mp h).1
  have hs : n < st.length := by rw [← k.len]; exact hn
  exact ⟨st[n], by simp [hs], k.ob n _ a (by simp [hs]) h⟩
theorem Ok.addr (k : Ok K ρ st H) {n : Nat} {mo : MO} (h : st[n]? = some mo) : ∃ a, ρ[n]? = some a ∧ Co K ρ H a mo := by
  have hn := (List.getElem?_eq_some_iff.mp h).1
  have hs : n < ρ.length := by rw [k.len]; exact hn
  exact ⟨ρ[n], by simp [hs], k.ob n _ _ h (by simp [hs])⟩
theorem Ok.fresh (k : Ok K ρ st H) {p : Addr} (hp : H p = none) : p ∉ ρ := fun hm => by
  obtain ⟨n, hn⟩ := List.mem_iff_getElem?.mp hm
  obtain ⟨mo, _, c⟩ := k.has hn
  obtain ⟨o, ho, _⟩ := c.has
  rw [hp] at ho; cases ho
theorem Ext.new {p : Addr} {o : HO} (hp : H p = none) {t : List Addr} : Ext ρ H (ρ ++ t) (upd H p o) :=
  ⟨⟨t, rfl⟩, fun b xs h => by rw [upd_ne (ne_of_none h hp)]; exact h, fun b o u h => by rw [upd_ne (ne_of_none h hp)]; exact h⟩
/-- a new object, tracked -/
theorem Ok.new (k : Ok K ρ st H) {p : Addr} (hp : H p = none) {o : HO} {mo : MO} (hc : Co K (ρ ++ [p]) (upd H p o) p mo) : Ok K (ρ ++ [p]) (st ++ [mo]) (upd H p o) where
  len := by simp [k.len]
  nd := by
    refine List.nodup_append.mpr ⟨k.nd, by simp, fun a ha b hb e => ?_⟩
    have : b = p := by simpa using hb
    subst this; subst e
    exact k.fresh hp ha
  ob := fun n m a hs hr => by
    by_cases hn : n < st.length
    · rw [List.getElem?_append_left hn] at hs
      rw [List.getElem?_append_left (by rw [k.len]; exact hn)] at hr
      have c := k.ob n m a hs hr
      obtain ⟨o', ho, _⟩ := c.has
      exact c.mono (Ext.new hp) (by rw [upd_ne (ne_of_none ho hp)])
    · rw [List.getElem?_append_right (by omega)] at hs
      rw [List.getElem?_append_right (by rw [k.len]; omega)] at hr
      obtain ⟨h0, e1⟩ := List.getElem?_eq_some_iff.mp hs
      have hz : n - st.length = 0 := by simp at h0; omega
      have hz' : n - ρ.length = 0 := by rw [k.len]; exact hz
      simp only [hz] at hs; simp only [hz'] at hr
      simp at hs hr; subst hs; subst hr
      exact hc
/-- a new object that is not tracked in the store (a tuple) -/
theorem Ok.tup (k : Ok K ρ st H) {p : Addr} (hp : H p = none) {o : HO} : Ok K ρ st (upd H p o) where
  len := k.len
  nd := k.nd
  ob := fun n m a hs hr => by
    have c := k.ob n m a hs hr
    obtain ⟨o', ho, _⟩ := c.has
    exact c.mono (by have := Ext.new (ρ := ρ) (o := o) hp (t := []); simpa using this) (by rw [upd_ne (ne_of_none ho hp)])
theorem Ext.tup {p : Addr} {o : HO} (hp : H p = none) : Ext ρ H ρ (upd H p o) := by
  have := Ext.new (ρ := ρ) (o := o) hp (t := []); simpa using this
theorem Ext.wr {p : Addr} {o u : HO} (hp : H p = some u) (nt : ∀ xs, u ≠ .tup xs) (nf : ∀ o v, u ≠ .frz o v := by intro _ _ z; cases z) : Ext ρ H ρ (upd H p o) :=
  ⟨⟨[], by simp⟩, fun b xs h => by
    have : b ≠ p := fun e => by subst e; rw [hp] at h; cases h; exact nt xs rfl
    rw [upd_ne this]; exact h, fun b o' v h => by
    have : b ≠ p := fun e => by subst e; rw [hp] at h; cases h; exact nf o' v rfl
    rw [upd_ne this]; exact h⟩
/-- an object is written -/
theorem Ok.set (k : Ok K ρ st H) {n : Nat} {a : Addr} {mo0 mo : MO} (hs : st[n]? = some mo0) (hr : ρ[n]? = some a) {o : HO} (hc : Co K ρ (upd H a o) a mo) : Ok K ρ (st.set n mo) (upd H a o) where
  len := by simp [k.len]
  nd := k.nd
  ob := fun m x b hs' hr' => by
    obtain ⟨u, hu, nt⟩ := (k.ob n mo0 a hs hr).has
    by_cases hm : n = m
    · subst hm
      rw [hr] at hr'; cases hr'
      have hl := (List.getElem?_eq_some_iff.mp hs).1
      rw [List.getElem?_set_self hl] at hs'
      cases hs'
      exact hc
    · rw [List.getElem?_set_ne hm] at hs'
      have hb : b ≠ a := fun e => by
        subst e
        obtain ⟨h1, e1⟩ := List.getElem?_eq_some_iff.mp hr
        obtain ⟨h2, e2⟩ := List.getElem?_eq_some_iff.mp hr'
        exact hm ((List.getElem_inj k.nd).mp (e1.trans e2.symm))
      refine (k.ob m x b hs' hr').im (fun c xs h => ?_) (upd_ne hb)
      have : c ≠ a := fun e => by subst e; rw [hu] at h; cases h; exact nt xs rfl
      rw [upd_ne this]; exact h
end

/-! ### slots -/
def ORl (ρ : List Addr) (H : Hp) : Option D → Option V → Prop
  | none, _ => True
  | some d, some v => Rl ρ H d v
  | some _, none => False
abbrev SRl (ρ : List Addr) (H : Hp) : En → St → Prop := Paired (ORl ρ H)
theorem ORl.mono {ρ H ρ' H'} (e : Ext ρ H ρ' H') : ∀ {d v}, ORl ρ H d v → ORl ρ' H' d v
  | none, _, _ => trivial
  | some _, some _, h => Rl.mono e h
  | some _, none, h => h
theorem SRl.mono {ρ H ρ' H'} (e : Ext ρ H ρ' H') : ∀ {δ σ}, SRl ρ H δ σ → SRl ρ' H' δ σ
  | _, _, .nil => .nil
  | _, _, .cons r q => .cons (r.mono e) (SRl.mono e q)
theorem SRl.get {ρ H} : ∀ {δ : En} {σ : St} {i : Nat} {d : D}, SRl ρ H δ σ → δ[i]? = some (some d) → ∃ v, σ[i]? = some (some v) ∧ Rl ρ H d v
  | _, _, _, _, .nil, h => by simp at h
  | _, _, 0, d, .cons (a := a) (b := b) r q, h => by
    simp at h; subst h
    cases b with
    | none => exact r.elim
    | some v => exact ⟨v, rfl, r⟩
  | _, _, i + 1, d, .cons _ q, h => by
    obtain ⟨v, h1, h2⟩ := SRl.get (i := i) (d := d) q (by simpa using h)
    exact ⟨v, by simpa using h1, h2⟩
theorem SRl.set {ρ H} {x : Option D} {y : Option V} (r : ORl ρ H x y) : ∀ {δ : En} {σ : St} (i : Nat), SRl ρ H δ σ → SRl ρ H (δ.set i x) (σ.set i y)
  | _, _, _, .nil => .nil
  | _, _, 0, .cons _ q => .cons r q
  | _, _, i + 1, .cons p q => .cons p (SRl.set r i q)
theorem ORl.im {ρ H H'} (e : ∀ b xs, H b = some (.tup xs) → H' b = some (.tup xs)) : ∀ {d v}, ORl ρ H d v → ORl ρ H' d v
  | none, _, _ => trivial
  | some _, some _, h => Rl.im e h
  | some _, none, h => h
theorem SRl.im {ρ H H'} (e : ∀ b xs, H b = some (.tup xs) → H' b = some (.tup xs)) : ∀ {δ σ}, SRl ρ H δ σ → SRl ρ H' δ σ
  | _, _, .nil => .nil
  | _, _, .cons r q => .cons (r.im e) (SRl.im e q)
def wipeD (δ : En) : List Nat → En
  | [] => δ
  | v :: vs => (wipeD δ vs).set v none
theorem SRl.wipe {ρ H} {δ : En} {σ : St} (r : SRl ρ H δ σ) : ∀ vs : List Nat, SRl ρ H (wipeD δ vs) (wipe σ vs)
  | [] => r
  | v :: vs => (SRl.wipe r vs).set (x := none) trivial v
theorem SRl.wipe' {ρ H} {δ : En} {σ : St} (r : SRl ρ H δ σ) : ∀ vs : List Nat, SRl ρ H (wipeD δ vs) σ
  | [] => r
  | v :: vs => by
    have q := (SRl.wipe' r vs)
    have : ∀ {δ : En} {σ : St} (i : Nat), SRl ρ H δ σ → SRl ρ H (δ.set i none) σ := by
      intro δ σ i h
      induction h generalizing i with
      | nil => exact .nil
      | cons p q ih =>
        cases i with
        | zero => exact .cons trivial q
        | succ i => exact .cons p (ih i)
    exact this v q
theorem SRl.start {ρ H} {ds : List D} {vs : List V} (r : RlL ρ H ds vs) (N : List Str) : SRl ρ H (ds.map some ++ List.replicate (N.length - ds.length) none) (start N vs) := by
  unfold L2.start
  have hl := r.length
  rw [hl]
  generalize N.length - vs.length = k
  have e : SRl ρ H (List.replicate k none) (List.replicate k none) := by
    induction k with
    | zero => exact .nil
    | succ k ih => exact .cons trivial ih
  clear hl
  have go : ∀ {ds : List D} {vs : List V}, RlL ρ H ds vs → SRl ρ H (ds.map some ++ List.replicate k none) (vs.map some ++ List.replicate k none) := by
    intro ds
    induction ds with
    | nil => intro vs r; cases r; exact e
    | cons d ds ih => intro vs r; cases r with | cons r q => exact .cons r (ih q)
  exact go r

/-! ### what a mirror's answer promises -/
def XRl (ρ : List Addr) (H : Hp) (fs : List (Str × D)) (d : Option Addr) : Prop :=
  (fs = [] ∧ d = none) ∨ ∃ a ws, d = some a ∧ H a = some (.xd ws) ∧ KRl ρ H fs ws
abbrev WxK := Value → Option Addr → Hp → Prop
def Post {α β : Type} (K : PySem.W.Frag) (ρ : List Addr) (H : Hp) (W : WxK) (rel : List Addr → Hp → α → β → Prop) (Q : β → Hp → Prop) : Res α → Prop
  | .ok a st' => ∀ ρ' H' b, Ext ρ H ρ' H' → Ok K ρ' st' H' → rel ρ' H' a b → Q b H'
  | .err C fs st' => ∀ ρ' H' d, Ext ρ H ρ' H' → Ok K ρ' st' H' → XRl ρ' H' fs d → W (.ref (He.ga K C)) d H'
  | .stuck => False
section
variable {α β γ δ : Type} {K : PySem.W.Frag} {ρ ρ1 : List Addr} {H H1 : Hp} {W : WxK} {rel : List Addr → Hp → α → β → Prop} {rel2 : List Addr → Hp → γ → δ → Prop} {Q : β → Hp → Prop} {Q2 : δ → Hp → Prop}
theorem Post.ext (e : Ext ρ H ρ1 H1) : ∀ {r : Res α}, Post K ρ H W rel Q r → Post K ρ1 H1 W rel Q r
  | .ok _ _, h => fun ρ' H' b x k q => h ρ' H' b (e.trans x) k q
  | .err _ _ _, h => fun ρ' H' d x k q => h ρ' H' d (e.trans x) k q
  | .stuck, h => h
theorem Post.imp {Q' : β → Hp → Prop} (f : ∀ b H', Q b H' → Q' b H') : ∀ {r : Res α}, Post K ρ H W rel Q r → Post K ρ H W rel Q' r
  | .ok _ _, h => fun ρ' H' b x k q => f _ _ (h ρ' H' b x k q)
  | .err _ _ _, h => h
  | .stuck, h => h
/-- the first of two -/
theorem Post.bind {f : α → Store → Res γ} : ∀ {r : Res α}, Post K ρ H W rel2 Q2 (r.bind f) →
    Post K ρ H W rel (fun b H1 => ∃ ρ1 a st1, Ext ρ H ρ1 H1 ∧ Ok K ρ1 st1 H1 ∧ rel ρ1 H1 a b ∧ Post K ρ1 H1 W rel2 Q2 (f a st1)) r
  | .ok a st, h => fun ρ1 H1 b x k q => ⟨ρ1, a, st, x, k, q, Post.ext x h⟩
  | .err _ _ _, h => h
  | .stuck, h => h
/-- an answer that stands already -/
theorem Post.now {a : α} {b : β} {st : Store} (k : Ok K ρ st H) (r : rel ρ H a b) (h : Post K ρ H W rel Q (.ok a st)) : Q b H := h ρ H b .refl k r
end

/-! ### expressions -/
def tG (K : PySem.W.Frag) (W : WX) (m : EM) : TE := fun σ H Q => ∃ ρ δ st, Ok K ρ st H ∧ SRl ρ H δ σ ∧ Post K ρ H (fun c d => W c d σ) Rl Q (m δ st)
def tGA (K : PySem.W.Frag) (W : WX) (m : AM) : TA := fun σ H Q => ∃ ρ δ st, Ok K ρ st H ∧ SRl ρ H δ σ ∧ Post K ρ H (fun c d => W c d σ) RlL Q (m δ st)
def tGB (K : PySem.W.Frag) (W : WX) (m : BM) : TT := fun σ H Q => ∃ ρ δ st, Ok K ρ st H ∧ SRl ρ H δ σ ∧ Post K ρ H (fun c d => W c d σ) (fun _ _ (a b : Bool) => a = b) Q (m δ st)
abbrev GE (X : Cx) (W : WX) (e : Expr) (m : EM) : Prop := PE X e (tG X.K W m)
abbrev GA (X : Cx) (W : WX) (es : List Expr) (m : AM) : Prop := PA X es (tGA X.K W m)
abbrev GT (X : Cx) (W : WX) (e : Expr) (m : BM) : Prop := PT X e (tGB X.K W m)
abbrev GW (X : Cx) (W : WX) (e : Expr) (m : BM) : Prop := PW X e (tGB X.K W m)
theorem PEw {X : Cx} {e : Expr} {t t' : TE} (h : PE X e t) (w : ∀ σ H Q, t' σ H Q → t σ H Q) : PE X e t' := ⟨fun pins s σ H Q I q => h.run pins s σ H Q I (w _ _ _ q)⟩
theorem PTw {X : Cx} {e : Expr} {t t' : TT} (h : PT X e t) (w : ∀ σ H Q, t' σ H Q → t σ H Q) : PT X e t' := ⟨fun pins s σ H Q I q => h.run pins s σ H Q I (w _ _ _ q)⟩
theorem PWw {X : Cx} {e : Expr} {t t' : TT} (h : PW X e t) (w : ∀ σ H Q, t' σ H Q → t σ H Q) : PW X e t' := ⟨fun wh pins s σ H Q I q => h.run wh pins s σ H Q I (w _ _ _ q)⟩
theorem PAw {X : Cx} {e : List Expr} {t t' : TA} (h : PA X e t) (w : ∀ σ H Q, t' σ H Q → t σ H Q) : PA X e t' := ⟨fun p pins s σ H Q I q => h.run p pins s σ H Q I (w _ _ _ q)⟩
theorem PSw {X : Cx} {e : Stmt} {t t' : TS} (h : PS X e t) (w : ∀ D σ H, t' D σ H → t D σ H) : PS X e t' := ⟨fun pins s σ H D I q => h.run pins s σ H D I (w _ _ _ q)⟩
theorem PSsw {X : Cx} {e : List Stmt} {t t' : TS} (h : PSs X e t) (w : ∀ D σ H, t' D σ H → t D σ H) : PSs X e t' := ⟨fun pins s σ H D I q => h.run pins s σ H D I (w _ _ _ q)⟩

/-! ### the first expressions -/
@[simp] def varM (i : Nat) : EM := fun δ st => match δ[i]? with
  | some (some d) => .ok d st
  | _ => .stuck
@[simp] def conM (d : D) : EM := fun _ st => .ok d st
section
variable {X : Cx} {W : WX} {pos : Pos}
theorem varM_ok {i : Nat} {δ : En} {st : Store} {K ρ H Wx} {Q : VK} (h : Post K ρ H Wx Rl Q (varM i δ st)) : ∃ d, δ[i]? = some (some d) ∧ Post K ρ H Wx Rl Q (.ok d st) := by
  unfold varM at h
  split at h
  · rename_i d e
    exact ⟨d, e, h⟩
  · exact h.elim
theorem g_var {i : Nat} {x : Str} (hN : X.N[i]? = some x) (hv : Vis X.env.scope x) (hd : (x == ("__debug__" : Str)) = false := by decide) (hcd : (x == ("__classdict__" : Str)) = false := by decide) : GE X W (.Name x pos) (varM i) := by
  refine PEw (pe_var (i := i) hN hv hd hcd) fun σ H Q ⟨ρ, δ, st, k, s, h⟩ => ?_
  obtain ⟨d, e, h⟩ := varM_ok h
  obtain ⟨v, hv, r⟩ := s.get e
  exact ⟨v, hv, h.now k r⟩
theorem g_int {i j} : GE X W (.Constant (.int i) j pos) (conM (.int i)) := PEw pe_int fun σ H Q ⟨ρ, δ, st, k, s, h⟩ => Post.now k (rel := Rl) .int h
theorem g_bl {i j} : GE X W (.Constant (.bool i) j pos) (conM (.bl i)) := PEw pe_bl fun σ H Q ⟨ρ, δ, st, k, s, h⟩ => Post.now k (rel := Rl) .bl h
theorem g_non {j} : GE X W (.Constant .none j pos) (conM .non) := PEw pe_non fun σ H Q ⟨ρ, δ, st, k, s, h⟩ => Post.now k (rel := Rl) .non h
theorem g_str {x j} : GE X W (.Constant (.str x) j pos) (conM (.str x)) := PEw pe_str fun σ H Q ⟨ρ, δ, st, k, s, h⟩ => Post.now k (rel := Rl) .str h
/-- a module's int, text -/
theorem g_glob {x : Str} {d : D} {v : V} {u : Value} (hg : Gl X x) (hm : X.mg x = some u) (r : RelV v u) (rd : ∀ ρ H, Rl ρ H d v) (hd : (x == ("__debug__" : Str)) = false := by decide) : GE X W (.Name x pos) (conM d) :=
  PEw (pe_glob hg hm r hd) fun σ H Q ⟨ρ, δ, st, k, s, h⟩ => Post.now k (rel := Rl) (rd _ _) h
end

/-! ### arguments, displays -/
@[simp] def nilM : AM := fun _ st => .ok [] st
@[simp] def consM (m : EM) (r : AM) : AM := fun δ st => (m δ st).bind fun d st => (r δ st).bind fun ds st => .ok (d :: ds) st
section
variable {X : Cx} {W : WX} {e : Expr} {es : List Expr} {m : EM} {am : AM} {pos : Pos}
theorem ga_nil : GA X W [] nilM := PAw pa_nil fun σ H Q ⟨ρ, δ, st, k, s, h⟩ => Post.now k (rel := RlL) .nil h
theorem ga_cons (he : GE X W e m) (hr : GA X W es am) (hs : starEach (e :: es) X.env = (false, eval e X.env) :: starEach es X.env := by rfl) : GA X W (e :: es) (consM m am) := by
  refine PAw (pa_cons he hr hs) fun σ H Q ⟨ρ, δ, st, k, s, h⟩ => ?_
  refine ⟨ρ, δ, st, k, s, (Post.bind (rel := Rl) h).imp fun v H1 ⟨ρ1, d, st1, x, k1, r, h1⟩ => ?_⟩
  refine ⟨ρ1, δ, st1, k1, s.mono x, (Post.bind (rel := RlL) h1).imp fun vs H2 ⟨ρ2, ds, st2, x2, k2, r2, h2⟩ => ?_⟩
  exact Post.now k2 (rel := RlL) (.cons (r.mono x2) r2) h2
@[simp] def tupM (am : AM) : EM := fun δ st => (am δ st).bind fun ds st => if ds.length ≤ sizeLine then .ok (.tup ds) st else .stuck
@[simp] def lstM (am : AM) : EM := fun δ st => (am δ st).bind fun ds st => if ds.length ≤ sizeLine then .ok (.loc st.length) (st ++ [.lst ds]) else .stuck
theorem Post.newTup {K ρ st H Wx} {Q : VK} {ds : List D} {vs : List V} (k : Ok K ρ st H) (r : RlL ρ H ds vs) (hz : vs.length ≤ sizeLine) (h : Post K ρ H Wx Rl Q (.ok (.tup ds) st)) : ∀ p, H p = none → Q (.ref p) (upd H p (.tup vs)) :=
  fun p hp => h ρ (upd H p (.tup vs)) (.ref p) (Ext.tup hp) (k.tup hp) (.tup upd_same hz (r.mono (Ext.tup hp)))
theorem Post.newObj {K ρ st H Wx} {Q : VK} {mo : MO} {o : HO} (k : Ok K ρ st H) (hc : ∀ p, H p = none → Co K (ρ ++ [p]) (upd H p o) p mo) (h : Post K ρ H Wx Rl Q (.ok (.loc st.length) (st ++ [mo]))) : ∀ p, H p = none → Q (.ref p) (upd H p o) :=
  fun p hp => h (ρ ++ [p]) (upd H p o) (.ref p) (Ext.new hp) (k.new hp (hc p hp)) (.loc (by rw [← k.len]; simp))
theorem Post.newLst {K ρ st H Wx} {Q : VK} {ds : List D} {vs : List V} (k : Ok K ρ st H) (r : RlL ρ H ds vs) (hz : vs.length ≤ sizeLine) (h : Post K ρ H Wx Rl Q (.ok (.loc st.length) (st ++ [.lst ds]))) : ∀ p, H p = none → Q (.ref p) (upd H p (.lst vs)) :=
  Post.newObj (mo := .lst ds) k (fun p hp => ⟨vs, upd_same, hz, r.mono (Ext.new hp)⟩) h
theorem g_tup {x1} (h : GA X W es am) : GE X W (.Tuple es x1 pos) (tupM am) := by
  refine PEw (pe_tup h) fun σ H Q ⟨ρ, δ, st, k, s, h⟩ => ?_
  refine ⟨ρ, δ, st, k, s, (Post.bind (rel := RlL) h).imp fun vs H1 ⟨ρ1, ds, st1, x, k1, r, h1⟩ => ?_⟩
  have hl := r.length
  by_cases hz : ds.length ≤ sizeLine
  · rw [if_pos hz] at h1
    exact ⟨by omega, Post.newTup k1 r (by omega) h1⟩
  · rw [if_neg hz] at h1; exact h1.elim
theorem g_lst (h : GA X W es am) : GE X W (.List es pos) (lstM am) := by
  refine PEw (pe_lst h) fun σ H Q ⟨ρ, δ, st, k, s, h⟩ => ?_
  refine ⟨ρ, δ, st, k, s, (Post.bind (rel := RlL) h).imp fun vs H1 ⟨ρ1, ds, st1, x, k1, r, h1⟩ => ?_⟩
  have hl := r.length
  by_cases hz : ds.length ≤ sizeLine
  · rw [if_pos hz] at h1
    exact ⟨by omega, Post.newLst k1 r (by omega) h1⟩
  · rw [if_neg hz] at h1; exact h1.elim
end
end Fx
/-! Fx2: operators, comparisons, tests. -/
namespace Fx
open PySem PySem.Spec PyProof.Rows L2

/-! ### two values and a function of them -/
abbrev F2 := D → D → Store → Res D
@[simp] def bin2 (f : F2) (ma mb : EM) : EM := fun δ st => (ma δ st).bind fun x st => (mb δ st).bind fun y st => f x y st
@[simp] def un1 (f : D → Store → Res D) (ma : EM) : EM := fun δ st => (ma δ st).bind fun x st => f x st
def OpG (K : PySem.W.Frag) (f : F2) (r : R2) : Prop := ∀ (ρ : List Addr) (st : Store) (H : Hp) (x y : D) (v u : V) (Wx : WxK) (Q : VK), Ok K ρ st H → Rl ρ H x v → Rl ρ H y u → Post K ρ H Wx Rl Q (f x y st) → r v u H Q
section
variable {X : Cx} {W : WX} {a b : Expr} {ma mb : EM} {pos : Pos} {f : F2} {r : R2}
theorem bin2_ok {σ : St} {H : Hp} {Q : VK} (h : tG X.K W (bin2 f ma mb) σ H Q) : tG X.K W ma σ H fun v H1 => tG X.K W mb σ H1 fun u H2 =>
    ∃ ρ st x y, Ok X.K ρ st H2 ∧ Rl ρ H2 x v ∧ Rl ρ H2 y u ∧ Post X.K ρ H2 (fun c d => W c d σ) Rl Q (f x y st) := by
  obtain ⟨ρ, δ, st, k, s, h⟩ := h
  refine ⟨ρ, δ, st, k, s, (Post.bind (rel := Rl) h).imp fun v H1 ⟨ρ1, x, st1, e1, k1, r1, h1⟩ => ?_⟩
  refine ⟨ρ1, δ, st1, k1, s.mono e1, (Post.bind (rel := Rl) h1).imp fun u H2 ⟨ρ2, y, st2, e2, k2, r2, h2⟩ => ?_⟩
  exact ⟨ρ2, st2, x, y, k2, r1.mono e2, r2, h2⟩
theorem un1_ok {f : D → Store → Res D} {σ : St} {H : Hp} {Q : VK} (h : tG X.K W (un1 f ma) σ H Q) : tG X.K W ma σ H fun v H1 =>
    ∃ ρ st x, Ok X.K ρ st H1 ∧ Rl ρ H1 x v ∧ Post X.K ρ H1 (fun c d => W c d σ) Rl Q (f x st) := by
  obtain ⟨ρ, δ, st, k, s, h⟩ := h
  exact ⟨ρ, δ, st, k, s, (Post.bind (rel := Rl) h).imp fun v H1 ⟨ρ1, x, st1, e1, k1, r1, h1⟩ => ⟨ρ1, st1, x, k1, r1, h1⟩⟩
theorem tOp_of (hf : OpG X.K f r) {σ : St} {H : Hp} {Q : VK} (h : tG X.K W (bin2 f ma mb) σ H Q) : tOp r (tG X.K W ma) (tG X.K W mb) σ H Q := by
  obtain ⟨ρ, δ, st, k, s, h⟩ := bin2_ok h
  refine ⟨ρ, δ, st, k, s, h.imp fun v H1 q => ?_⟩
  obtain ⟨ρ, δ, st, k, s, h⟩ := q
  exact ⟨ρ, δ, st, k, s, h.imp fun u H2 ⟨ρ2, st2, x, y, k2, r1, r2, h2⟩ => hf ρ2 st2 H2 x y v u _ Q k2 r1 r2 h2⟩
theorem g_op {op : Operator} (ho : OpR X (binaryOp op) r) (hf : OpG X.K f r) (ha : GE X W a ma) (hb : GE X W b mb) : GE X W (.BinOp a op b pos) (bin2 f ma mb) :=
  PEw (pe_op ho ha hb) fun _ _ _ h => tOp_of hf h
theorem g_cmp {op : CmpOp} (ho : OpR X (compareOp op) r) (hf : OpG X.K f r) (hm : behindInMarks op b = false) (ha : GE X W a ma) (hb : GE X W b mb) : GE X W (.Compare a [op] [b] pos) (bin2 f ma mb) :=
  PEw (pe_cmpR ho ha hb hm) fun _ _ _ h => tOp_of hf h
end

/-! ### the operators -/
@[simp] def addV : F2
  | .int i, .int j, st => .ok (.int (i + j)) st
  | .str x, .str y, st => if x.length + y.length ≤ sizeLine then .ok (.str (x ++ y)) st else .stuck
  | .tup xs, .tup ys, st => if xs.length + ys.length ≤ sizeLine then .ok (.tup (xs ++ ys)) st else .stuck
  | .loc l, .loc b, st => match st[l]?, st[b]? with
    | some (.lst xs), some (.lst ys) => if xs.length + ys.length ≤ sizeLine then .ok (.loc st.length) (st ++ [.lst (xs ++ ys)]) else .stuck
    | _, _ => .stuck
  | _, _, _ => .stuck
@[simp] def subV : F2
  | .int i, .int j, st => .ok (.int (i - j)) st
  | _, _, _ => .stuck
/-- a product: one factor below 2 ^ 64 -/
@[simp] def mulB (i j : Int) : Bool := (decide (-(2 ^ 64) < i) && decide (i < 2 ^ 64)) || (decide (-(2 ^ 64) < j) && decide (j < 2 ^ 64))
@[simp] def mulV : F2
  | .int i, .int j, st => if mulB i j then .ok (.int (i * j)) st else .stuck
  | .loc l, .int k, st => match st[l]? with
    | some (.lst xs) => if -(2 ^ 63) ≤ k ∧ k < 2 ^ 63 ∧ xs.length * k.toNat ≤ sizeLine then .ok (.loc st.length) (st ++ [.lst (List.replicate k.toNat xs).flatten]) else .stuck
    | _ => .stuck
  | _, _, _ => .stuck
@[simp] def divV : F2
  | .int i, .int j, st => if 0 < j ∧ j < 1073741824 then .ok (.int (i / j)) st else .stuck
  | _, _, _ => .stuck
@[simp] def modV : F2
  | .int i, .int j, st => if 0 < j then .ok (.int (i % j)) st else .stuck
  | _, _, _ => .stuck
@[simp] def powV : F2
  | .int i, .int j, st => if 0 ≤ j ∧ j ≤ 1000000 ∧ i.natAbs < 2 ^ 64 then .ok (.int (i ^ j.toNat)) st else .stuck
  | _, _, _ => .stuck
abbrev rAddS : R2 := fun x y H Q => ∃ i j, x = .str i ∧ y = .str j ∧ i.length + j.length ≤ sizeLine ∧ Q (.str (i ++ j)) H
def rAddG (K : PySem.W.Frag) : R2 := fun x y H Q => rI0 (fun i j => .int (i + j)) x y H Q ∨ rAddS x y H Q ∨ rCatA K x y H Q ∨ rCat x y H Q
theorem op_addG {X : Cx} : OpR X (binaryOp .Add) (rAddG X.K) := op_add.or (op_add_str.or (op_catA.or op_cat))
theorem catA_of {K : PySem.W.Frag} {ρ : List Addr} {st : Store} {H : Hp} {xs ys : List D} {v u : V} {Wx : WxK} {Q : VK} (k : Ok K ρ st H) (r1 : Rl ρ H (.tup xs) v) (r2 : Rl ρ H (.tup ys) u) (hz : xs.length + ys.length ≤ sizeLine)
    (h : Post K ρ H Wx Rl Q (.ok (.tup (xs ++ ys)) st)) : rCatA K v u H Q := by
  cases r1 with
  | tup ha z1 q1 =>
    cases r2 with
    | tup hb z2 q2 =>
      rename_i a vs b us
      have l1 := q1.length
      have l2 := q2.length
      refine ⟨a, b, vs, us, rfl, rfl, SqT.of ha, SqT.of hb, by omega, fun e => ?_, fun e1 e2 => ?_, fun _ _ => ?_⟩
      · have : xs = [] := by have : xs.length = 0 := by rw [l1, e]; rfl
                             exact List.eq_nil_of_length_eq_zero this
        subst this
        exact h.now k (.tup hb z2 q2)
      · have : ys = [] := by have : ys.length = 0 := by rw [l2, e2]; rfl
                             exact List.eq_nil_of_length_eq_zero this
        subst this
        rw [List.append_nil] at h
        exact h.now k (.tup ha z1 q1)
      · exact Post.newTup k (q1.append q2) (by rw [List.length_append]; omega) h
theorem Ok.lstAt {K : PySem.W.Frag} {ρ : List Addr} {st : Store} {H : Hp} (k : Ok K ρ st H) {l : Nat} {a : Addr} {xs : List D} (hr : ρ[l]? = some a) (hs : st[l]? = some (.lst xs)) : ∃ vs, H a = some (.lst vs) ∧ vs.length ≤ sizeLine ∧ RlL ρ H xs vs := k.ob l _ a hs hr
theorem addV_ok {K : PySem.W.Frag} : OpG K addV (rAddG K) := by
  intro ρ st H x y v u Wx Q k r1 r2 h
  unfold addV at h
  split at h
  · cases r1; cases r2
    exact .inl ⟨_, _, rfl, rfl, h.now k .int⟩
  · cases r1; cases r2
    split at h
    · rename_i hz
      exact .inr (.inl ⟨_, _, rfl, rfl, hz, h.now k .str⟩)
    · exact h.elim
  · split at h
    · rename_i hz
      exact .inr (.inr (.inl (catA_of k r1 r2 hz h)))
    · exact h.elim
  · split at h
    · rename_i xs ys e1 e2
      split at h
      · rename_i hz
        cases r1 with
        | loc ha =>
          cases r2 with
          | loc hb =>
            obtain ⟨vs, h1, z1, q1⟩ := k.lstAt ha e1
            obtain ⟨us, h2, z2, q2⟩ := k.lstAt hb e2
            have l1 := q1.length
            have l2 := q2.length
            exact .inr (.inr (.inr ⟨_, _, vs, us, rfl, rfl, h1, h2, by omega, Post.newLst k (q1.append q2) (by rw [List.length_append]; omega) h⟩))
      · exact h.elim
    · exact h.elim
  · exact h.elim
theorem subV_ok {K : PySem.W.Frag} : OpG K subV (rI0 fun i j => .int (i - j)) := by
  intro ρ st H x y v u Wx Q k r1 r2 h
  unfold subV at h
  split at h
  · cases r1; cases r2
    exact ⟨_, _, rfl, rfl, h.now k .int⟩
  · exact h.elim
def rMulG : R2 := fun x y H Q => rI CMul (fun i j => .int (i * j)) x y H Q ∨ rRep x y H Q
theorem op_mulG {X : Cx} : OpR X (binaryOp .Mult) rMulG := op_mul.or op_rep
theorem mulV_ok {K : PySem.W.Frag} : OpG K mulV rMulG := by
  intro ρ st H x y v u Wx Q k r1 r2 h
  unfold mulV at h
  split at h
  · cases r1; cases r2
    split at h
    · rename_i hb
      refine .inl ⟨_, _, rfl, rfl, ?_, h.now k .int⟩
      unfold mulB at hb
      simpa [CMul] using hb
    · exact h.elim
  · split at h
    · rename_i xs e1
      split at h
      · rename_i hz
        cases r1 with
        | loc ha =>
          cases r2
          obtain ⟨vs, h1, z1, q1⟩ := k.lstAt ha e1
          have l1 := q1.length
          have q : ∀ n : Nat, RlL ρ H (List.replicate n xs).flatten (List.replicate n vs).flatten := fun n => by
            induction n with
            | zero => exact .nil
            | succ n ih => rw [List.replicate_succ, List.replicate_succ, List.flatten_cons, List.flatten_cons]; exact q1.append ih
          refine .inr ⟨_, _, vs, rfl, rfl, h1, hz.1, hz.2.1, by rw [← l1]; exact hz.2.2, Post.newLst k (q _) ?_ h⟩
          rw [← (q _).length]
          simp only [List.length_flatten, List.map_replicate, List.sum_replicate_nat]
          rw [Nat.mul_comm]; exact hz.2.2
      · exact h.elim
    · exact h.elim
  · exact h.elim
theorem divV_ok {K : PySem.W.Frag} : OpG K divV (rI CDiv fun i j => .int (i / j)) := by
  intro ρ st H x y v u Wx Q k r1 r2 h
  unfold divV at h
  split at h
  · cases r1; cases r2
    split at h
    · rename_i hz
      exact ⟨_, _, rfl, rfl, hz, h.now k .int⟩
    · exact h.elim
  · exact h.elim
theorem modV_ok {K : PySem.W.Frag} : OpG K modV (rI (fun _ j => 0 < j) fun i j => .int (i % j)) := by
  intro ρ st H x y v u Wx Q k r1 r2 h
  unfold modV at h
  split at h
  · cases r1; cases r2
    split at h
    · rename_i hz
      exact ⟨_, _, rfl, rfl, hz, h.now k .int⟩
    · exact h.elim
  · exact h.elim
theorem powV_ok {K : PySem.W.Frag} : OpG K powV (rI CPow fun i j => .int (i ^ j.toNat)) := by
  intro ρ st H x y v u Wx Q k r1 r2 h
  unfold powV at h
  split at h
  · cases r1; cases r2
    split at h
    · rename_i hz
      exact ⟨_, _, rfl, rfl, hz, h.now k .int⟩
    · exact h.elim
  · exact h.elim
section
variable {X : Cx} {W : WX} {a b : Expr} {ma mb : EM} {pos : Pos}
abbrev addM := bin2 addV
abbrev subM := bin2 subV
abbrev mulM := bin2 mulV
abbrev divM := bin2 divV
abbrev modM := bin2 modV
abbrev powM := bin2 powV
theorem g_add (ha : GE X W a ma) (hb : GE X W b mb) : GE X W (.BinOp a .Add b pos) (addM ma mb) := g_op op_addG addV_ok ha hb
theorem g_sub (ha : GE X W a ma) (hb : GE X W b mb) : GE X W (.BinOp a .Sub b pos) (subM ma mb) := g_op op_sub subV_ok ha hb
theorem g_mul (ha : GE X W a ma) (hb : GE X W b mb) : GE X W (.BinOp a .Mult b pos) (mulM ma mb) := g_op op_mulG mulV_ok ha hb
theorem g_div (ha : GE X W a ma) (hb : GE X W b mb) : GE X W (.BinOp a .FloorDiv b pos) (divM ma mb) := g_op op_fdiv divV_ok ha hb
theorem g_mod (ha : GE X W a ma) (hb : GE X W b mb) : GE X W (.BinOp a .Mod b pos) (modM ma mb) := g_op op_mod modV_ok ha hb
theorem g_pow (ha : GE X W a ma) (hb : GE X W b mb) : GE X W (.BinOp a .Pow b pos) (powM ma mb) := g_op op_pow powV_ok ha hb
@[simp] def negV : D → Store → Res D
  | .int i, st => .ok (.int (-i)) st
  | _, _ => .stuck
abbrev negM := un1 negV
theorem g_neg (ha : GE X W a ma) : GE X W (.UnaryOp .USub a pos) (negM ma) := PEw (pe_un un_neg ha) fun σ H Q h => by
  obtain ⟨ρ, δ, st, k, s, h⟩ := un1_ok h
  refine ⟨ρ, δ, st, k, s, h.imp fun v H1 ⟨ρ1, st1, x, k1, r1, h1⟩ => ?_⟩
  unfold negV at h1
  split at h1
  · cases r1; exact ⟨_, rfl, h1.now k1 .int⟩
  · exact h1.elim
end

/-! ### equality of data -/
def optAll (f : D → Option PyData) : List D → Option (List PyData)
  | [] => some []
  | d :: ds => match f d, optAll f ds with
    | some a, some r => some (a :: r)
    | _, _ => none
def pyD (st : Store) : Nat → D → Option PyData
  | 0, _ => none
  | _ + 1, .non => some .none
  | _ + 1, .bl b => some (.bool b)
  | _ + 1, .int i => some (.int i)
  | _ + 1, .str x => some (.str x)
  | n + 1, .tup ds => (optAll (pyD st n) ds).map .tuple
  | n + 1, .loc l => match st[l]? with
    | some (.lst ds) => (optAll (pyD st n) ds).map .list
    | _ => none
  | _ + 1, .kl _ => none
theorem pyD_ok {K : PySem.W.Frag} {ρ : List Addr} {st : Store} {H : Hp} (k : Ok K ρ st H) : ∀ (n : Nat) {d : D} {v : V} {p : PyData}, pyD st n d = some p → Rl ρ H d v → Dp K H v p
  | 0, _, _, _, e, _ => by cases e
  | n + 1, d, v, p, e, r => by
    have all : ∀ {ds : List D} {vs : List V} {ps : List PyData}, optAll (pyD st n) ds = some ps → RlL ρ H ds vs → DpAll K H vs ps := by
      intro ds
      induction ds with
      | nil => intro vs ps e q; cases e; cases q; exact .nil
      | cons d ds ih =>
        intro vs ps e q
        cases q with
        | cons r q =>
          unfold optAll at e
          split at e
          · rename_i a r' e1 e2
            cases e
            exact .cons (pyD_ok k n e1 r) (ih e2 q)
          · cases e
    cases r with
    | non => cases e; exact .non
    | bl => cases e; exact .bl _
    | int => cases e; exact .int _
    | str => cases e; exact .str _
    | kl => cases e
    | tup ha hz q =>
      rename_i ds a vs
      unfold pyD at e
      cases e1 : optAll (pyD st n) ds with
      | none => rw [e1] at e; cases e
      | some ps => rw [e1] at e; cases e; exact .tup (SqT.of ha) (all e1 q)
    | loc ha =>
      rename_i l a
      unfold pyD at e
      split at e
      · rename_i ds hs
        obtain ⟨vs, h1, z1, q1⟩ := k.lstAt ha hs
        cases e1 : optAll (pyD st n) ds with
        | none => rw [e1] at e; cases e
        | some ps => rw [e1] at e; cases e; exact .lst (SqL.of h1) (all e1 q1)
      · cases e
/-- whether two things are equal, as Python's == tells -/
def eqB (st : Store) (x y : D) : Option Bool := match pyD st 65 x, pyD st 65 y with
  | some p, some q => if SeqAt.shaped p = true ∧ SeqAt.shaped q = true then some (PyData.eqv p q) else none
  | _, _ => none
def eqV : F2 := fun x y st => match eqB st x y with
  | some b => .ok (.bl b) st
  | none => .stuck
def neV : F2 := fun x y st => match eqB st x y with
  | some b => .ok (.bl (!b)) st
  | none => .stuck
theorem eqB_ok {K : PySem.W.Frag} {ρ : List Addr} {st : Store} {H : Hp} (k : Ok K ρ st H) {x y : D} {v u : V} {b : Bool} (e : eqB st x y = some b) (r1 : Rl ρ H x v) (r2 : Rl ρ H y u) :
    ∃ p q, Dp K H v p ∧ Dp K H u q ∧ SeqAt.shaped p = true ∧ SeqAt.shaped q = true ∧ PyData.eqv p q = b := by
  unfold eqB at e
  split at e
  · rename_i p q e1 e2
    split at e
    · rename_i hs
      cases e
      exact ⟨p, q, pyD_ok k _ e1 r1, pyD_ok k _ e2 r2, hs.1, hs.2, rfl⟩
    · cases e
  · cases e
theorem eqV_ok {K : PySem.W.Frag} : OpG K eqV (rEqD K) := by
  intro ρ st H x y v u Wx Q k r1 r2 h
  unfold eqV at h
  split at h
  · rename_i b e
    obtain ⟨p, q, h1, h2, h3, h4, rfl⟩ := eqB_ok k e r1 r2
    exact ⟨p, q, h1, h2, h3, h4, h.now k .bl⟩
  · exact h.elim
theorem neV_ok {K : PySem.W.Frag} : OpG K neV (rNeD K) := by
  intro ρ st H x y v u Wx Q k r1 r2 h
  unfold neV at h
  split at h
  · rename_i b e
    obtain ⟨p, q, h1, h2, h3, h4, rfl⟩ := eqB_ok k e r1 r2
    exact ⟨p, q, h1, h2, h3, h4, h.now k .bl⟩
  · exact h.elim

/-! ### order of ints, texts, tuples of ints -/
def intsOf : List D → Option (List Int)
  | [] => some []
  | .int i :: ds => (intsOf ds).map (i :: ·)
  | _ :: _ => none
theorem intsOf_ok {ρ : List Addr} {H : Hp} : ∀ {ds : List D} {vs : List V} {ns : List Int}, intsOf ds = some ns → RlL ρ H ds vs → vs = ns.map V.int
  | [], _, _, e, q => by cases e; cases q; rfl
  | d :: ds, _, ns, e, q => by
    cases q with
    | cons r q =>
      cases d with
      | int i =>
        cases e1 : intsOf ds with
        | none => simp [intsOf, e1] at e
        | some ms =>
          simp [intsOf, e1] at e
          subst e
          cases r
          rw [intsOf_ok e1 q]; rfl
      | _ => simp [intsOf] at e
@[simp] theorem intsOf_map (ns : List Int) : intsOf (ns.map D.int) = some ns := by
  induction ns with
  | nil => rfl
  | cons n ns ih => simp [intsOf, ih]
@[simp] def cmpI (p : Int → Int → Bool) : F2
  | .int i, .int j, st => .ok (.bl (p i j)) st
  | _, _, _ => .stuck
theorem cmpI_ok {K : PySem.W.Frag} {p : Int → Int → Bool} : OpG K (cmpI p) (rI0 fun i j => .bl (p i j)) := by
  intro ρ st H x y v u Wx Q k r1 r2 h
  unfold cmpI at h
  split at h
  · cases r1; cases r2
    exact ⟨_, _, rfl, rfl, h.now k .bl⟩
  · exact h.elim
section
variable {X : Cx} {W : WX} {a b c : Expr} {ma mb mc : EM} {pos : Pos}
abbrev eqM := bin2 eqV
abbrev neM := bin2 neV
abbrev ltM := bin2 (cmpI fun i j => decide (i < j))
abbrev leM := bin2 (cmpI fun i j => decide (i ≤ j))
abbrev gtM := bin2 (cmpI fun i j => decide (j < i))
abbrev geM := bin2 (cmpI fun i j => decide (j ≤ i))
theorem g_eq (hu : X.A.units + 64 < cLine) (ha : GE X W a ma) (hb : GE X W b mb) : GE X W (.Compare a [.Eq] [b] pos) (eqM ma mb) := g_cmp (op_eqD hu) eqV_ok (nomark _) ha hb
theorem g_ne (hu : X.A.units + 64 < cLine) (ha : GE X W a ma) (hb : GE X W b mb) : GE X W (.Compare a [.NotEq] [b] pos) (neM ma mb) := g_cmp (op_neD hu) neV_ok (nomark _) ha hb
theorem g_lt (ha : GE X W a ma) (hb : GE X W b mb) : GE X W (.Compare a [.Lt] [b] pos) (ltM ma mb) := g_cmp op_lt cmpI_ok (nomark _) ha hb
theorem g_le (ha : GE X W a ma) (hb : GE X W b mb) : GE X W (.Compare a [.LtE] [b] pos) (leM ma mb) := g_cmp op_le cmpI_ok (nomark _) ha hb
theorem g_gt (ha : GE X W a ma) (hb : GE X W b mb) : GE X W (.Compare a [.Gt] [b] pos) (gtM ma mb) := g_cmp op_gt cmpI_ok (nomark _) ha hb
theorem g_ge (ha : GE X W a ma) (hb : GE X W b mb) : GE X W (.Compare a [.GtE] [b] pos) (geM ma mb) := g_cmp op_ge cmpI_ok (nomark _) ha hb
/-- a < b < c: b asked once -/
@[simp] def chainM (f g : F2) (ma mb mc : EM) : EM := fun δ st => (ma δ st).bind fun x st => (mb δ st).bind fun y st => (f x y st).bind fun z st => match z with
  | .bl true => (mc δ st).bind fun w st => g y w st
  | .bl false => .ok (.bl false) st
  | _ => .stuck
theorem g_chain {op op' : CmpOp} {f g : F2} {r r' : R2} (ho : OpR X (compareOp op) r) (ho' : OpR X (compareOp op') r') (hf : OpG X.K f r) (hg : OpG X.K g r') (ha : GE X W a ma) (hb : GE X W b mb) (hc : GE X W c mc)
    (hm : lastMarks [op, op'] [b, c] = false := by with_unfolding_all rfl) : GE X W (.Compare a [op, op'] [b, c] pos) (chainM f g ma mb mc) := by
  refine PEw (pe_chain ho ho' ha hb hc hm) fun σ H Q h => ?_
  obtain ⟨ρ, δ, st, k, s, h⟩ := h
  refine ⟨ρ, δ, st, k, s, (Post.bind (rel := Rl) h).imp fun v H1 ⟨ρ1, x, st1, e1, k1, r1, h1⟩ => ?_⟩
  refine ⟨ρ1, δ, st1, k1, s.mono e1, (Post.bind (rel := Rl) h1).imp fun u H2 ⟨ρ2, y, st2, e2, k2, r2, h2⟩ => ?_⟩
  refine hf ρ2 st2 H2 x y v u _ _ k2 (r1.mono e2) r2 ((Post.bind (rel := Rl) h2).imp fun z H3 ⟨ρ3, zd, st3, e3, k3, r3, h3⟩ => ?_)
  split at h3
  · cases r3
    refine ⟨true, rfl, iteT ?_⟩
    refine ⟨ρ3, δ, st3, k3, (s.mono e1).mono (e2.trans e3), (Post.bind (rel := Rl) h3).imp fun w H4 ⟨ρ4, wd, st4, e4, k4, r4, h4⟩ => ?_⟩
    exact hg ρ4 st4 H4 y wd u w _ Q k4 (r2.mono (e3.trans e4)) r4 h4
  · cases r3
    exact ⟨false, rfl, iteF (h3.now k3 .bl)⟩
  · exact h3.elim
@[simp] def D.isNon : D → Bool
  | .non => true
  | _ => false
theorem isNon_ok {ρ : List Addr} {H : Hp} {x : D} {v : V} (r : Rl ρ H x v) : decide (v = .non) = x.isNon := by
  cases r <;> simp [D.isNon]
/-- is of bools, of None -/
def isV : F2
  | .bl a, .bl b, st => .ok (.bl (decide (a = b))) st
  | x, .non, st => .ok (.bl x.isNon) st
  | _, _, _ => .stuck
def isnV : F2
  | .bl a, .bl b, st => .ok (.bl (!decide (a = b))) st
  | x, .non, st => .ok (.bl (!x.isNon)) st
  | _, _, _ => .stuck
abbrev isM := bin2 isV
abbrev isnM := bin2 isnV
theorem isV_ok {K : PySem.W.Frag} : OpG K isV (fun x y H Q => (∃ a b, x = V.bl a ∧ y = V.bl b ∧ Q (V.bl (decide (a = b))) H) ∨ (y = V.non ∧ Q (V.bl (decide (x = V.non))) H)) := by
  intro ρ st H x y v u Wx Q k r1 r2 h
  unfold isV at h
  split at h
  · cases r1; cases r2
    exact .inl ⟨_, _, rfl, rfl, h.now k .bl⟩
  · cases r2
    refine .inr ⟨rfl, ?_⟩
    rw [isNon_ok r1]
    exact h.now k .bl
  · exact h.elim
theorem isnV_ok {K : PySem.W.Frag} : OpG K isnV (fun x y H Q => (∃ a b, x = V.bl a ∧ y = V.bl b ∧ Q (V.bl (!decide (a = b))) H) ∨ (y = V.non ∧ Q (V.bl (!decide (x = V.non))) H)) := by
  intro ρ st H x y v u Wx Q k r1 r2 h
  unfold isnV at h
  split at h
  · cases r1; cases r2
    exact .inl ⟨_, _, rfl, rfl, h.now k .bl⟩
  · cases r2
    refine .inr ⟨rfl, ?_⟩
    rw [isNon_ok r1]
    exact h.now k .bl
  · exact h.elim
theorem g_is (ha : GE X W a ma) (hb : GE X W b mb) : GE X W (.Compare a [.Is] [b] pos) (isM ma mb) := g_cmp (op_is_bl.or op_isN) isV_ok (nomark _) ha hb
theorem g_isn (ha : GE X W a ma) (hb : GE X W b mb) : GE X W (.Compare a [.IsNot] [b] pos) (isnM ma mb) := g_cmp (op_isnot_bl.or op_notN) isnV_ok (nomark _) ha hb
end

/-! ### tests -/
@[simp] def asB (m : EM) : BM := fun δ st => (m δ st).bind fun d st => match d with
  | .bl b => .ok b st
  | _ => .stuck
/-- a value's truth -/
@[simp] def truB (m : EM) : BM := fun δ st => (m δ st).bind fun d st => match d with
  | .bl b => .ok b st
  | .non => .ok false st
  | .int i => .ok (i != 0) st
  | .str x => if x.length ≤ sizeLine then .ok ((x.length : Int) != 0) st else .stuck
  | .tup xs => .ok (!xs.isEmpty) st
  | .loc l => match st[l]? with
    | some (.lst xs) => .ok (!xs.isEmpty) st
    | some (.dK xs) => .ok (!xs.isEmpty) st
    | _ => .stuck
  | .kl _ => .stuck
theorem RlL.emp {ρ : List Addr} {H : Hp} {ds : List D} {vs : List V} (q : RlL ρ H ds vs) : (!ds.isEmpty) = !vs.isEmpty := by
  cases q <;> rfl
theorem KRl.emp {κ : Type} {ρ : List Addr} {H : Hp} {ds : List (κ × D)} {vs : List (κ × V)} (q : KRl ρ H ds vs) : (!ds.isEmpty) = !vs.isEmpty := by
  cases q <;> rfl
def valM (m : BM) : EM := fun δ st => (m δ st).bind fun b st => .ok (.bl b) st
@[simp] def andB (m n : BM) : BM := fun δ st => (m δ st).bind fun b st => if b = true then n δ st else .ok false st
@[simp] def orB (m n : BM) : BM := fun δ st => (m δ st).bind fun b st => if b = true then .ok true st else n δ st
@[simp] def notB (m : BM) : BM := fun δ st => (m δ st).bind fun b st => .ok (!b) st
section
variable {X : Cx} {W : WX} {e a b : Expr} {m n k : EM} {mb nb : BM} {pos : Pos} {rest : List Expr}
theorem gt_val (h : GE X W e m) (he : ∀ whole, isTrue e X.env whole = (do let v ← whole; standAt e.pos; holding [v] (truthy v)) := by intro _; rfl) : GT X W e (asB m) := by
  refine PTw (pt_val h he) fun σ H Q ⟨ρ, δ, st, k, s, h⟩ => ?_
  refine ⟨ρ, δ, st, k, s, (Post.bind (rel := Rl) h).imp fun v H1 ⟨ρ1, x, st1, e1, k1, r1, h1⟩ => ?_⟩
  split at h1
  · cases r1; exact ⟨_, rfl, h1.now k1 rfl⟩
  · exact h1.elim
/-- a comparison as a test -/
theorem gt_cmp {op : CmpOp} {f : F2} {r : R2} (ho : OpR X (compareOp op) r) (hf : OpG X.K f r) (hm : behindInMarks op b = false) (ha : GE X W a m) (hb : GE X W b n) : GT X W (.Compare a [op] [b] pos) (asB (bin2 f m n)) := by
  refine PTw (pt_cmpR ho ha hb hm) fun σ H Q ⟨ρ, δ, st, k, s, h⟩ => ?_
  have h' := tOp_of (X := X) (W := W) (σ := σ) (H := H) (Q := fun x H' => ∃ k, x = .bl k ∧ Q k H') (ma := m) (mb := n) hf ⟨ρ, δ, st, k, s, (Post.bind (rel := Rl) h).imp fun v H1 ⟨ρ1, x, st1, e1, k1, r1, h1⟩ => by
    split at h1
    · cases r1; exact ⟨_, rfl, h1.now k1 rfl⟩
    · exact h1.elim⟩
  exact h'
theorem gt_chain {op op' : CmpOp} {c : Expr} {f g : F2} {r r' : R2} (ho : OpR X (compareOp op) r) (ho' : OpR X (compareOp op') r') (hf : OpG X.K f r) (hg : OpG X.K g r') (ha : GE X W a m) (hb : GE X W b n) (hc : GE X W c k)
    (he : ∀ whole, isTrue (.Compare a [op, op'] [b, c] pos) X.env whole = (do let v ← whole; standAt (Expr.pos (.Compare a [op, op'] [b, c] pos)); holding [v] (truthy v)) := by intro _; rfl)
    (hm : lastMarks [op, op'] [b, c] = false := by with_unfolding_all rfl) : GT X W (.Compare a [op, op'] [b, c] pos) (asB (chainM f g m n k)) := gt_val (g_chain ho ho' hf hg ha hb hc hm) he
theorem gt_tru (h : GE X W e m) (he : ∀ whole, isTrue e X.env whole = (do let v ← whole; standAt e.pos; holding [v] (truthy v)) := by intro _; rfl) : GT X W e (truB m) := by
  refine PTw (pt_truth h he) fun σ H Q ⟨ρ, δ, st, k, s, h⟩ => ?_
  refine ⟨ρ, δ, st, k, s, (Post.bind (rel := Rl) h).imp fun v H1 ⟨ρ1, x, st1, e1, k1, r1, h1⟩ => ?_⟩
  split at h1
  · cases r1; exact ⟨_, rfl, h1.now k1 rfl⟩
  · cases r1; exact ⟨_, rfl, h1.now k1 rfl⟩
  · cases r1; exact ⟨_, rfl, h1.now k1 rfl⟩
  · cases r1
    split at h1
    · rename_i hz
      exact ⟨_, ⟨hz, rfl⟩, h1.now k1 rfl⟩
    · exact h1.elim
  · cases r1 with
    | tup ha hz q =>
      exact ⟨_, .inr (.inl ⟨_, SqT.of ha, rfl⟩), h1.now k1 q.emp⟩
  · cases r1 with
    | loc ha =>
      split at h1
      · rename_i hs
        obtain ⟨vs, h2, z2, q2⟩ := k1.lstAt ha hs
        exact ⟨_, .inl ⟨_, SqL.of h2, rfl⟩, h1.now k1 q2.emp⟩
      · rename_i hs
        obtain ⟨ws, h2, q2⟩ := k1.ob _ _ _ hs ha
        exact ⟨_, .inr (.inr ⟨_, h2, rfl⟩), h1.now k1 q2.emp⟩
      · exact h1.elim
  · exact h1.elim
theorem gw_and1 (h : GT X W a mb) : GW X W (.BoolOp .And [a] pos) mb := pw_and1 h
theorem gw_or1 (h : GT X W a mb) : GW X W (.BoolOp .Or [a] pos) mb := pw_or1 h
theorem gw_and (h : GT X W a mb) (h2 : GW X W (.BoolOp .And (b :: rest) pos) nb) : GW X W (.BoolOp .And (a :: b :: rest) pos) (andB mb nb) := by
  refine PWw (pw_and h h2) fun σ H Q ⟨ρ, δ, st, k, s, h⟩ => ?_
  refine ⟨ρ, δ, st, k, s, (Post.bind (rel := fun _ _ (a b : Bool) => a = b) h).imp fun c H1 ⟨ρ1, x, st1, e1, k1, r1, h1⟩ => ?_⟩
  subst r1
  cases x with
  | true => exact iteT ⟨ρ1, δ, st1, k1, s.mono e1, h1⟩
  | false => exact iteF (h1.now k1 rfl)
theorem gw_or (h : GT X W a mb) (h2 : GW X W (.BoolOp .Or (b :: rest) pos) nb) : GW X W (.BoolOp .Or (a :: b :: rest) pos) (orB mb nb) := by
  refine PWw (pw_or h h2) fun σ H Q ⟨ρ, δ, st, k, s, h⟩ => ?_
  refine ⟨ρ, δ, st, k, s, (Post.bind (rel := fun _ _ (a b : Bool) => a = b) h).imp fun c H1 ⟨ρ1, x, st1, e1, k1, r1, h1⟩ => ?_⟩
  subst r1
  cases x with
  | true => exact iteT (h1.now k1 rfl)
  | false => exact iteF ⟨ρ1, δ, st1, k1, s.mono e1, h1⟩
theorem gt_w (h : GW X W e mb) : GT X W e mb := h.pt
theorem gt_not (h : GT X W a mb) : GT X W (.UnaryOp .Not a pos) (notB mb) := by
  refine PTw (pt_not h) fun σ H Q ⟨ρ, δ, st, k, s, h⟩ => ?_
  refine ⟨ρ, δ, st, k, s, (Post.bind (rel := fun _ _ (a b : Bool) => a = b) h).imp fun c H1 ⟨ρ1, x, st1, e1, k1, r1, h1⟩ => ?_⟩
  subst r1
  exact h1.now k1 rfl
/-! as values -/
@[simp] def andM (m n : EM) : EM := fun δ st => (m δ st).bind fun d st => match d with
  | .bl true => n δ st
  | .bl false => .ok (.bl false) st
  | _ => .stuck
@[simp] def orM (m n : EM) : EM := fun δ st => (m δ st).bind fun d st => match d with
  | .bl true => .ok (.bl true) st
  | .bl false => n δ st
  | _ => .stuck
@[simp] def notM (m : EM) : EM := fun δ st => (m δ st).bind fun d st => match d with
  | .bl b => .ok (.bl (!b)) st
  | _ => .stuck
theorem g_one {op} (h : GE X W a m) : GE X W (.BoolOp op [a] pos) m := pe_one h
theorem g_and (h : GE X W a m) (h2 : GE X W (.BoolOp .And (b :: rest) pos) n) : GE X W (.BoolOp .And (a :: b :: rest) pos) (andM m n) := by
  refine PEw (pe_and h h2) fun σ H Q ⟨ρ, δ, st, k, s, h⟩ => ?_
  refine ⟨ρ, δ, st, k, s, (Post.bind (rel := Rl) h).imp fun v H1 ⟨ρ1, x, st1, e1, k1, r1, h1⟩ => ?_⟩
  split at h1
  · cases r1; exact ⟨_, rfl, iteT ⟨ρ1, δ, st1, k1, s.mono e1, h1⟩⟩
  · cases r1; exact ⟨_, rfl, iteF (h1.now k1 .bl)⟩
  · exact h1.elim
theorem g_or (h : GE X W a m) (h2 : GE X W (.BoolOp .Or (b :: rest) pos) n) : GE X W (.BoolOp .Or (a :: b :: rest) pos) (orM m n) := by
  refine PEw (pe_or h h2) fun σ H Q ⟨ρ, δ, st, k, s, h⟩ => ?_
  refine ⟨ρ, δ, st, k, s, (Post.bind (rel := Rl) h).imp fun v H1 ⟨ρ1, x, st1, e1, k1, r1, h1⟩ => ?_⟩
  split at h1
  · cases r1; exact ⟨_, rfl, iteT (h1.now k1 .bl)⟩
  · cases r1; exact ⟨_, rfl, iteF ⟨ρ1, δ, st1, k1, s.mono e1, h1⟩⟩
  · exact h1.elim
theorem g_not (h : GE X W a m) : GE X W (.UnaryOp .Not a pos) (notM m) := by
  refine PEw (pe_not h) fun σ H Q ⟨ρ, δ, st, k, s, h⟩ => ?_
  refine ⟨ρ, δ, st, k, s, (Post.bind (rel := Rl) h).imp fun v H1 ⟨ρ1, x, st1, e1, k1, r1, h1⟩ => ?_⟩
  split at h1
  · cases r1; exact ⟨_, rfl, h1.now k1 .bl⟩
  · exact h1.elim
@[simp] def ifM (c : BM) (m n : EM) : EM := fun δ st => (c δ st).bind fun t st => if t = true then m δ st else n δ st
theorem g_if {c : Expr} {mc : BM} (hc : GT X W c mc) (ha : GE X W a m) (hb : GE X W b n) : GE X W (.IfExp c a b pos) (ifM mc m n) := by
  refine PEw (pe_ifExp hc ha hb) fun σ H Q ⟨ρ, δ, st, k, s, h⟩ => ?_
  refine ⟨ρ, δ, st, k, s, (Post.bind (rel := fun _ _ (a b : Bool) => a = b) h).imp fun c H1 ⟨ρ1, x, st1, e1, k1, r1, h1⟩ => ?_⟩
  subst r1
  cases x with
  | true => exact iteT ⟨ρ1, δ, st1, k1, s.mono e1, h1⟩
  | false => exact iteF ⟨ρ1, δ, st1, k1, s.mono e1, h1⟩
end
end Fx
/-! Fx3: statements, loops, defs, calls. -/
namespace Fx
open PySem PySem.Spec PyProof.Rows L2

inductive Out where
  | nx | rt (d : D) | bk | ct
inductive SRes where
  | ok (o : Out) (δ : En) (st : Store)
  | err (C : Str) (fs : List (Str × D)) (δ : En) (st : Store)
  | stuck
abbrev SM := En → Store → SRes
def PostS (K : PySem.W.Frag) (ρ : List Addr) (H : Hp) (W : WX) (Dn : Ends) : SRes → Prop
  | .ok o δ' st' => ∀ ρ' σ' H', Ext ρ H ρ' H' → Ok K ρ' st' H' → SRl ρ' H' δ' σ' → (match o with
    | .nx => Dn.nx σ' H'
    | .bk => Dn.bk σ' H'
    | .ct => Dn.ct σ' H'
    | .rt d => ∀ v, Rl ρ' H' d v → Dn.rt v H')
  | .err C fs δ' st' => ∀ ρ' σ' H' d, Ext ρ H ρ' H' → Ok K ρ' st' H' → SRl ρ' H' δ' σ' → XRl ρ' H' fs d → W (.ref (He.ga K C)) d σ' H'
  | .stuck => False
def tGS (K : PySem.W.Frag) (W : WX) (m : SM) : TS := fun Dn σ H => ∃ ρ δ st, Ok K ρ st H ∧ SRl ρ H δ σ ∧ PostS K ρ H W Dn (m δ st)
abbrev GS (X : Cx) (W : WX) (s : Stmt) (m : SM) : Prop := PS X s (tGS X.K W m)
abbrev GSs (X : Cx) (W : WX) (s : List Stmt) (m : SM) : Prop := PSs X s (tGS X.K W m)
def bindE {α : Type} (r : Res α) (δ : En) (f : α → Store → SRes) : SRes := match r with
  | .ok a st => f a st
  | .err C fs st => .err C fs δ st
  | .stuck => .stuck
@[simp] theorem bindE_ok {α : Type} (a : α) (st δ) (f : α → Store → SRes) : bindE (.ok a st) δ f = f a st := rfl
@[simp] theorem bindE_err {α : Type} (C fs st δ) (f : α → Store → SRes) : bindE (.err C fs st) δ f = .err C fs δ st := rfl
@[simp] theorem bindE_stuck {α : Type} (δ) (f : α → Store → SRes) : bindE (.stuck) δ f = .stuck := rfl
def SRes.bind (r : SRes) (f : En → Store → SRes) : SRes := match r with
  | .ok .nx δ st => f δ st
  | r => r
@[simp] theorem SRes.bind_nx (δ st) (f : En → Store → SRes) : (SRes.ok .nx δ st).bind f = f δ st := rfl
@[simp] theorem SRes.bind_rt (d δ st) (f : En → Store → SRes) : (SRes.ok (.rt d) δ st).bind f = .ok (.rt d) δ st := rfl
@[simp] theorem SRes.bind_bk (δ st) (f : En → Store → SRes) : (SRes.ok .bk δ st).bind f = .ok .bk δ st := rfl
@[simp] theorem SRes.bind_ct (δ st) (f : En → Store → SRes) : (SRes.ok .ct δ st).bind f = .ok .ct δ st := rfl
@[simp] theorem SRes.bind_err (C fs δ st) (f : En → Store → SRes) : (SRes.err C fs δ st).bind f = .err C fs δ st := rfl
@[simp] theorem SRes.bind_stuck (f : En → Store → SRes) : (SRes.stuck).bind f = .stuck := rfl
section
variable {K : PySem.W.Frag} {ρ ρ1 : List Addr} {H H1 : Hp} {W : WX} {Dn : Ends}
theorem PostS.ext (e : Ext ρ H ρ1 H1) : ∀ {r : SRes}, PostS K ρ H W Dn r → PostS K ρ1 H1 W Dn r
  | .ok _ _ _, h => fun ρ' σ' H' x k s => h ρ' σ' H' (e.trans x) k s
  | .err _ _ _ _, h => fun ρ' σ' H' d x k s => h ρ' σ' H' d (e.trans x) k s
  | .stuck, h => h
theorem PostS.now {δ : En} {σ : St} {st : Store} (k : Ok K ρ st H) (s : SRl ρ H δ σ) (h : PostS K ρ H W Dn (.ok .nx δ st)) : Dn.nx σ H := h ρ σ H .refl k s
theorem PostS.bindE {α β : Type} {rel : List Addr → Hp → α → β → Prop} {δ : En} {σ : St} {f : α → Store → SRes} (s : SRl ρ H δ σ) : ∀ {r : Res α}, PostS K ρ H W Dn (bindE r δ f) →
    Post K ρ H (fun c d => W c d σ) rel (fun b H1 => ∃ ρ1 a st1, Ext ρ H ρ1 H1 ∧ Ok K ρ1 st1 H1 ∧ rel ρ1 H1 a b ∧ PostS K ρ1 H1 W Dn (f a st1)) r
  | .ok a st, h => fun ρ1 H1 b x k q => ⟨ρ1, a, st, x, k, q, PostS.ext x h⟩
  | .err _ _ _, h => fun ρ' H' d x k q => h ρ' σ H' d x k (s.mono x) q
  | .stuck, h => h
/-- the first of two statements -/
theorem PostS.bind {f : En → Store → SRes} : ∀ {r : SRes}, PostS K ρ H W Dn (r.bind f) →
    PostS K ρ H W { Dn with nx := fun σ1 H1 => ∃ ρ1 δ1 st1, Ext ρ H ρ1 H1 ∧ Ok K ρ1 st1 H1 ∧ SRl ρ1 H1 δ1 σ1 ∧ PostS K ρ1 H1 W Dn (f δ1 st1) } r
  | .ok .nx δ st, h => fun ρ1 σ1 H1 x k s => ⟨ρ1, δ, st, x, k, s, PostS.ext x h⟩
  | .ok (.rt _) _ _, h => h
  | .ok .bk _ _, h => h
  | .ok .ct _ _, h => h
  | .err _ _ _ _, h => h
  | .stuck, h => h
end

/-! ### blocks -/
@[simp] def skipS : SM := fun δ st => .ok .nx δ st
@[simp] def seqS (a b : SM) : SM := fun δ st => (a δ st).bind b
@[simp] def exprS (m : EM) : SM := fun δ st => bindE (m δ st) δ fun _ st => .ok .nx δ st
@[simp] def retS (m : EM) : SM := fun δ st => bindE (m δ st) δ fun d st => .ok (.rt d) δ st
@[simp] def retN : SM := fun δ st => .ok (.rt .non) δ st
@[simp] def breakS : SM := fun δ st => .ok .bk δ st
@[simp] def contS : SM := fun δ st => .ok .ct δ st
@[simp] def ifS (c : BM) (a b : SM) : SM := fun δ st => bindE (c δ st) δ fun t st => if t = true then a δ st else b δ st
def stuckS : SM := fun _ _ => .stuck
section
variable {X : Cx} {W : WX} {st0 : Stmt} {rest : List Stmt} {a b : SM} {e : Expr} {m : EM} {pos : Pos}
theorem gss_nil : GSs X W [] skipS := PSsw pss_nil fun Dn σ H ⟨ρ, δ, st, k, s, h⟩ => h.now k s
theorem gss_cons (h1 : GS X W st0 a) (h2 : GSs X W rest b) : GSs X W (st0 :: rest) (seqS a b) := by
  refine PSsw (pss_cons h1 h2) fun Dn σ H ⟨ρ, δ, st, k, s, h⟩ => ?_
  refine ⟨ρ, δ, st, k, s, ?_⟩
  have q := PostS.bind h
  refine (show _ → _ from ?_) q
  cases a δ st with
  | ok o δ' st' =>
    intro q ρ' σ' H' x k' s'
    have z := q ρ' σ' H' x k' s'
    cases o with
    | nx =>
      obtain ⟨ρ1, δ1, st1, x1, k1, s1, h1⟩ := z
      exact ⟨ρ1, δ1, st1, k1, s1, h1⟩
    | rt d => exact z
    | bk => exact z
    | ct => exact z
  | err C fs δ' st' => exact fun q => q
  | stuck => exact fun q => q
theorem gss_one (h1 : GS X W st0 a) : GSs X W [st0] a := pss_one h1
theorem gs_pass : GS X W (.Pass pos) skipS := PSw ps_pass fun Dn σ H ⟨ρ, δ, st, k, s, h⟩ => h.now k s
theorem gs_break : GS X W (.Break pos) breakS := PSw ps_break fun Dn σ H ⟨ρ, δ, st, k, s, h⟩ => h ρ σ H .refl k s
theorem gs_cont : GS X W (.Continue pos) contS := PSw ps_continue fun Dn σ H ⟨ρ, δ, st, k, s, h⟩ => h ρ σ H .refl k s
theorem gs_expr (he : GE X W e m) (hs : swapsWith e none pos.line X.env = pure false := by rfl) : GS X W (.Expr e pos) (exprS m) := by
  refine PSw (ps_expr he hs) fun Dn σ H ⟨ρ, δ, st, k, s, h⟩ => ?_
  exact ⟨ρ, δ, st, k, s, (PostS.bindE (rel := Rl) s h).imp fun v H1 ⟨ρ1, d, st1, x, k1, r, h1⟩ => h1.now k1 (s.mono x)⟩
theorem gs_ret (he : GE X W e m) : GS X W (.Return (some e) pos) (retS m) := by
  refine PSw (ps_ret he) fun Dn σ H ⟨ρ, δ, st, k, s, h⟩ => ?_
  exact ⟨ρ, δ, st, k, s, (PostS.bindE (rel := Rl) s h).imp fun v H1 ⟨ρ1, d, st1, x, k1, r, h1⟩ => h1 ρ1 σ H1 .refl k1 (s.mono x) v r⟩
theorem gs_retN : GS X W (.Return none pos) retN := PSw ps_retN fun Dn σ H ⟨ρ, δ, st, k, s, h⟩ => h ρ σ H .refl k s _ .non
theorem gs_if {c : Expr} {p q : List Stmt} {mc : BM} (hc : GT X W c mc) (ha : GSs X W p a) (hb : GSs X W q b) : GS X W (.If c p q pos) (ifS mc a b) := by
  refine PSw (ps_if hc ha hb) fun Dn σ H ⟨ρ, δ, st, k, s, h⟩ => ?_
  refine ⟨ρ, δ, st, k, s, (PostS.bindE (rel := fun _ _ (a b : Bool) => a = b) s h).imp fun c H1 ⟨ρ1, t, st1, x, k1, r, h1⟩ => ?_⟩
  subst r
  cases t with
  | true => exact iteT ⟨ρ1, δ, st1, k1, s.mono x, h1⟩
  | false => exact iteF ⟨ρ1, δ, st1, k1, s.mono x, h1⟩
theorem gs_never : GS X W st0 stuckS := PSw ps_never fun Dn σ H ⟨ρ, δ, st, k, s, h⟩ => h
end

/-! ### targets -/
/-- a target: the value, the slots, the store -/
abbrev TGM := D → En → Store → SRes
def tGG (K : PySem.W.Frag) (W : WX) (g : TGM) : TG := fun v σ H Q => ∃ ρ δ st d, Ok K ρ st H ∧ SRl ρ H δ σ ∧ Rl ρ H d v ∧ PostS K ρ H W { nx := Q, rt := fun _ _ => False } (g d δ st)
abbrev GG (X : Cx) (W : WX) (t : Expr) (g : TGM) : Prop := PG X t (tGG X.K W g)
abbrev TGsM := List D → En → Store → SRes
def tGGs (K : PySem.W.Frag) (W : WX) (g : TGsM) : TGs := fun vs σ H Q => ∃ ρ δ st ds, Ok K ρ st H ∧ SRl ρ H δ σ ∧ RlL ρ H ds vs ∧ PostS K ρ H W { nx := Q, rt := fun _ _ => False } (g ds δ st)
abbrev GGs (X : Cx) (W : WX) (t : List Expr) (g : TGsM) : Prop := PGs X t (tGGs X.K W g)
@[simp] def nameG (i : Nat) : TGM := fun d δ st => .ok .nx (δ.set i (some d)) st
@[simp] def nilG : TGsM := fun ds δ st => match ds with
  | [] => .ok .nx δ st
  | _ => .stuck
@[simp] def consG (g : TGM) (r : TGsM) : TGsM := fun ds δ st => match ds with
  | d :: ds => (g d δ st).bind fun δ st => r ds δ st
  | [] => .stuck
@[simp] def tupG (n : Nat) (g : TGsM) : TGM := fun d δ st => match d with
  | .tup ds => if ds.length = n then g ds δ st else .stuck
  | _ => .stuck
@[simp] def asgS (m : EM) (g : TGM) : SM := fun δ st => bindE (m δ st) δ fun d st => g d δ st
abbrev setS (i : Nat) (m : EM) : SM := asgS m (nameG i)
section
variable {X : Cx} {W : WX} {e : Expr} {es : List Expr} {m : EM} {g : TGM} {r : TGsM} {pos : Pos}
theorem PGw {X : Cx} {e : Expr} {t t' : TG} (h : PG X e t) (w : ∀ v σ H Q, t' v σ H Q → t v σ H Q) : PG X e t' := ⟨fun pins s σ H v u Q I rv q => h.run pins s σ H v u Q I rv (w _ _ _ _ q)⟩
theorem PGsw {X : Cx} {e : List Expr} {t t' : TGs} (h : PGs X e t) (w : ∀ v σ H Q, t' v σ H Q → t v σ H Q) : PGs X e t' := ⟨fun pins s σ H v u Q I rv q => h.run pins s σ H v u Q I rv (w _ _ _ _ q)⟩
theorem gg_name {i : Nat} {x : Str} (hN : X.N.Nodup) (hi : X.N[i]? = some x) (hx : Loc X.env.scope x) (hf : X.fn x = true ∨ X.env.scope.names.lookup x = some .local := by first | exact .inl rfl | exact .inr rfl | assumption) : GG X W (.Name x pos) (nameG i) :=
  PGw (pg_name hN hi hx hf) fun v σ H Q ⟨ρ, δ, st, d, k, s, rv, h⟩ => PostS.now (W := W) k (SRl.set (x := some d) (y := some v) rv i s) h
theorem ggs_nil : GGs X W [] nilG := PGsw pgs_nil fun vs σ H Q ⟨ρ, δ, st, ds, k, s, rv, h⟩ => by
  cases rv with
  | nil => exact ⟨rfl, PostS.now (W := W) k s h⟩
  | cons _ _ => exact h.elim
theorem ggs_cons (h1 : GG X W e g) (h2 : GGs X W es r) (hs : (assignEach (e :: es) X.env).map (·.2) = assign e X.env :: (assignEach es X.env).map (·.2) := by rfl) : GGs X W (e :: es) (consG g r) := by
  refine PGsw (pgs_cons h1 h2 hs) fun vs σ H Q ⟨ρ, δ, st, ds, k, s, rv, h⟩ => ?_
  cases rv with
  | nil => exact h.elim
  | cons r1 q1 =>
    refine ⟨_, _, rfl, ρ, δ, st, _, k, s, r1, ?_⟩
    have q := PostS.bind h
    refine (show _ → _ from ?_) q
    generalize g _ δ st = gr
    cases gr with
    | ok o δ' st' =>
      intro q ρ' σ' H' x k' s'
      have z := q ρ' σ' H' x k' s'
      cases o with
      | nx =>
        obtain ⟨ρ1, δ1, st1, x1, k1, s1, h1⟩ := z
        exact ⟨ρ1, δ1, st1, _, k1, s1, q1.mono x1, h1⟩
      | rt d => exact z
      | bk => exact z
      | ct => exact z
    | err C fs δ' st' => exact fun q => q
    | stuck => exact fun q => q
theorem gg_tup {k n : Nat} (hc : X.calm = true) (h : GGs X W es r) (hn : (assignEach es X.env).length = n := by rfl) (hst : (assignEach es X.env).findIdx? (·.1) = none := by rfl) : GG X W (.Tuple es k pos) (tupG n r) := by
  refine PGw (pg_tup hc h hn hst) fun v σ H Q ⟨ρ, δ, st, d, k, s, rv, h⟩ => ?_
  unfold tupG at h
  split at h
  · split at h
    · rename_i hl
      cases rv with
      | tup ha hz q =>
        exact ⟨_, _, rfl, SqT.of ha, by rw [← q.length]; exact hl, ρ, δ, st, _, k, s, q, h⟩
    · exact h.elim
  · exact h.elim
theorem tAsg_of {tg : TG} (hg : ∀ v σ H Q, tGG X.K W g v σ H Q → tg v σ H Q) {Dn : Ends} {σ : St} {H : Hp} (h : tGS X.K W (asgS m g) Dn σ H) (hd : ∀ d δ st, (∃ δ' st', g d δ st = .ok .nx δ' st') ∨ (∃ C fs δ' st', g d δ st = .err C fs δ' st') ∨ g d δ st = .stuck) :
    tAsg (tG X.K W m) tg Dn σ H := by
  obtain ⟨ρ, δ, st, k, s, h⟩ := h
  refine ⟨ρ, δ, st, k, s, (PostS.bindE (rel := Rl) s h).imp fun v H1 ⟨ρ1, d, st1, x, k1, r, h1⟩ => ?_⟩
  refine hg _ _ _ _ ⟨ρ1, δ, st1, d, k1, s.mono x, r, ?_⟩
  rcases hd d δ st1 with ⟨δ', st', e⟩ | ⟨C, fs, δ', st', e⟩ | e
  · rw [e] at h1 ⊢; exact h1
  · rw [e] at h1 ⊢; exact h1
  · rw [e] at h1; exact h1.elim
/-- a target never returns -/
def GoodG (g : TGM) : Prop := ∀ d δ st, (∃ δ' st', g d δ st = .ok .nx δ' st') ∨ (∃ C fs δ' st', g d δ st = .err C fs δ' st') ∨ g d δ st = .stuck
def GoodGs (g : TGsM) : Prop := ∀ d δ st, (∃ δ' st', g d δ st = .ok .nx δ' st') ∨ (∃ C fs δ' st', g d δ st = .err C fs δ' st') ∨ g d δ st = .stuck
theorem good_name {i : Nat} : GoodG (nameG i) := fun d δ st => .inl ⟨_, _, rfl⟩
theorem good_nil : GoodGs nilG := fun ds δ st => by
  cases ds with
  | nil => exact .inl ⟨_, _, rfl⟩
  | cons _ _ => exact .inr (.inr rfl)
theorem good_cons (h1 : GoodG g) (h2 : GoodGs r) : GoodGs (consG g r) := fun ds δ st => by
  cases ds with
  | nil => exact .inr (.inr rfl)
  | cons d ds =>
    show (∃ δ' st', (g d δ st).bind (fun δ st => r ds δ st) = _) ∨ (∃ C fs δ' st', (g d δ st).bind (fun δ st => r ds δ st) = _) ∨ (g d δ st).bind (fun δ st => r ds δ st) = _
    rcases h1 d δ st with ⟨δ', st', e⟩ | ⟨C, fs, δ', st', e⟩ | e
    · rw [e]; exact h2 ds δ' st'
    · rw [e]; exact .inr (.inl ⟨_, _, _, _, rfl⟩)
    · rw [e]; exact .inr (.inr rfl)
theorem good_tup {n : Nat} (h : GoodGs r) : GoodG (tupG n r) := fun d δ st => by
  unfold tupG
  split
  · split
    · exact h _ δ st
    · exact .inr (.inr rfl)
  · exact .inr (.inr rfl)
theorem gs_asg {tg : Expr} (he : GE X W e m) (hg : GG X W tg g) (good : GoodG g) (hs : swapsWithSole [tg] e pos.line X.env = pure false := by rfl) (hw : swappedStores [tg] e X.env = pure none := by rfl)
    (h1 : (assignEach [tg] X.env).map (·.2) = [assign tg X.env] := by rfl) : GS X W (.Assign [tg] e pos) (asgS m g) :=
  PSw (ps_asg he hg hs hw h1) fun Dn σ H h => tAsg_of (fun _ _ _ _ z => z) h good
theorem gs_set {i : Nat} {x : Str} {pos' : Pos} (hN : X.N.Nodup) (hi : X.N[i]? = some x) (hx : Loc X.env.scope x) (he : GE X W e m) (hs : swapsWith e (some (.Name x pos')) pos.line X.env = pure false := by rfl) (hf : X.fn x = true ∨ X.env.scope.names.lookup x = some .local := by first | exact .inl rfl | exact .inr rfl | assumption) :
    GS X W (.Assign [.Name x pos'] e pos) (setS i m) := by
  refine PSw (ps_set hN hi hx he hs hf) fun Dn σ H ⟨ρ, δ, st, k, s, h⟩ => ?_
  exact ⟨ρ, δ, st, k, s, (PostS.bindE (rel := Rl) s h).imp fun v H1 ⟨ρ1, d, st1, x, k1, r, h1⟩ => h1.now k1 (SRl.set (x := some d) (y := some v) r i (s.mono x))⟩
/-- a, b = x, y: plain local names -/
@[simp] def parS (i j : Nat) (am : AM) : SM := fun δ st => bindE (am δ st) δ fun ds st => match ds with
  | [d, f] => .ok .nx ((δ.set i (some d)).set j (some f)) st
  | _ => .stuck
theorem gs_par {i j : Nat} {x y : Str} {a b : Expr} {am : AM} {px py pt : Pos} {kt k2 pt2} (hc : X.calm = true) (hN : X.N.Nodup) (hi : X.N[i]? = some x) (hj : X.N[j]? = some y) (hij : i ≠ j)
    (hx : X.env.scope.names.lookup x = some .local) (hy : X.env.scope.names.lookup y = some .local) (ha : GA X W [a, b] am)
    (hw : swappedStores [.Tuple [.Name x px, .Name y py] kt pt] (.Tuple [a, b] k2 pt2) X.env = pure (some [x, y]) := by rfl)
    (hs : swapsWithSole [.Tuple [.Name x px, .Name y py] kt pt] (.Tuple [a, b] k2 pt2) pos.line X.env = pure false := by rfl) :
    GS X W (.Assign [.Tuple [.Name x px, .Name y py] kt pt] (.Tuple [a, b] k2 pt2) pos) (parS i j am) := by
  refine PSw (ps_par hc hN hi hj hij hx hy ha hw hs) fun Dn σ H ⟨ρ, δ, st, k, s, h⟩ => ?_
  refine ⟨ρ, δ, st, k, s, (PostS.bindE (rel := RlL) s h).imp fun vs H1 ⟨ρ1, ds, st1, x, k1, r, h1⟩ => ?_⟩
  split at h1
  · cases r with
    | cons r1 q =>
      cases q with
      | cons r2 q =>
        cases q
        exact ⟨_, _, rfl, h1.now k1 (SRl.set (x := some _) (y := some _) r2 j (SRl.set (x := some _) (y := some _) r1 i (s.mono x)))⟩
  · exact h1.elim
/-- name op= e -/
@[simp] def augS (i : Nat) (f : F2) (m : EM) : SM := fun δ st => match δ[i]? with
  | some (some x) => bindE ((m δ st).bind fun y st => f x y st) δ fun z st => .ok .nx (δ.set i (some z)) st
  | _ => .stuck
def IpG (K : PySem.W.Frag) (f : F2) (r : TIp) : Prop := ∀ (ρ : List Addr) (st : Store) (H : Hp) (x y : D) (v u : V) (Wx : WxK) (Q : VK), Ok K ρ st H → Rl ρ H x v → Rl ρ H y u → Post K ρ H Wx Rl Q (f x y st) → r v u H Q
@[simp] def iaddV : F2 := fun x y st => match x, y with
  | .int i, .int j => .ok (.int (i + j)) st
  | _, _ => .stuck
@[simp] def isubV : F2 := fun x y st => match x, y with
  | .int i, .int j => .ok (.int (i - j)) st
  | _, _ => .stuck
theorem iaddV_ok {K : PySem.W.Frag} : IpG K iaddV (ipI fun i j => i + j) := by
  intro ρ st H x y v u Wx Q k r1 r2 h
  unfold iaddV at h
  split at h
  · cases r1; cases r2; exact ⟨_, _, rfl, rfl, h.now k .int⟩
  · exact h.elim
theorem isubV_ok {K : PySem.W.Frag} : IpG K isubV (ipI fun i j => i - j) := by
  intro ρ st H x y v u Wx Q k r1 r2 h
  unfold isubV at h
  split at h
  · cases r1; cases r2; exact ⟨_, _, rfl, rfl, h.now k .int⟩
  · exact h.elim
theorem gs_aug {i : Nat} {x : Str} {op : Operator} {ti : TIp} {f : F2} {pos' : Pos} (hN : X.N.Nodup) (hi : X.N[i]? = some x) (hx : Loc X.env.scope x) (he : GE X W e m) (ho : PIp X op ti) (hf' : IpG X.K f ti) (hf : X.fn x = true ∨ X.env.scope.names.lookup x = some .local := by first | exact .inl rfl | exact .inr rfl | assumption) :
    GS X W (.AugAssign (.Name x pos') op e pos) (augS i f m) := by
  refine PSw (ps_aug hN hi hx he ho hf) fun Dn σ H ⟨ρ, δ, st, k, s, h⟩ => ?_
  unfold augS at h
  split at h
  · rename_i x0 ex
    obtain ⟨v, hv, r⟩ := s.get ex
    have h' := PostS.bindE (rel := Rl) s h
    refine ⟨v, hv, ρ, δ, st, k, s, (Post.bind (rel := Rl) h').imp fun u H1 ⟨ρ1, y, st1, e1, k1, r1, h1⟩ => ?_⟩
    refine hf' ρ1 st1 H1 x0 y v u _ _ k1 (r.mono e1) r1 (h1.imp fun z H2 ⟨ρ2, zd, st2, e2, k2, r2, h2⟩ => ?_)
    exact h2.now k2 (SRl.set (x := some zd) (y := some z) r2 i (s.mono e2))
  · exact h.elim
end

/-! ### while -/
def whileN (c : BM) (b : SM) : Nat → En → Store → Option SRes
  | 0, _, _ => none
  | n + 1, δ, st => match c δ st with
    | .ok true st => match b δ st with
      | .ok .nx δ st => whileN c b n δ st
      | .ok .ct δ st => whileN c b n δ st
      | .ok .bk δ st => some (.ok .nx δ st)
      | .ok (.rt d) δ st => some (.ok (.rt d) δ st)
      | .err C fs δ st => some (.err C fs δ st)
      | .stuck => some .stuck
    | .ok false st => some (.ok .nx δ st)
    | .err C fs st => some (.err C fs δ st)
    | .stuck => some .stuck
open Classical in
noncomputable def whileS (c : BM) (b : SM) : SM := fun δ st => if h : ∃ n r, whileN c b n δ st = some r then (Classical.choose_spec h).choose else .stuck
theorem whileN_mono {c : BM} {b : SM} : ∀ {n : Nat} {δ st r}, whileN c b n δ st = some r → ∀ {m}, n ≤ m → whileN c b m δ st = some r
  | 0, _, _, _, h, _, _ => by cases h
  | n + 1, δ, st, r, h, m, hm => by
    obtain ⟨m', rfl⟩ : ∃ m', m = m' + 1 := ⟨m - 1, by omega⟩
    unfold whileN at h ⊢
    cases hc : c δ st with
    | ok t st1 =>
      rw [hc] at h
      cases t with
      | true =>
        simp only at h ⊢
        cases hb : b δ st1 with
        | ok o δ2 st2 =>
          rw [hb] at h
          cases o with
          | nx => exact whileN_mono (n := n) h (by omega)
          | ct => exact whileN_mono (n := n) h (by omega)
          | bk => exact h
          | rt d => exact h
        | err _ _ _ _ => rw [hb] at h; exact h
        | stuck => rw [hb] at h; exact h
      | false => exact h
    | err _ _ _ => rw [hc] at h; exact h
    | stuck => rw [hc] at h; exact h
theorem whileS_of {c : BM} {b : SM} {n : Nat} {δ st r} (h : whileN c b n δ st = some r) : whileS c b δ st = r := by
  have hx : ∃ n r, whileN c b n δ st = some r := ⟨n, r, h⟩
  unfold whileS
  rw [dif_pos hx]
  have h2 := (Classical.choose_spec hx).choose_spec
  have a := whileN_mono h (Nat.le_max_left n (Classical.choose hx))
  have b' := whileN_mono h2 (Nat.le_max_right n (Classical.choose hx))
  rw [a] at b'
  exact (Option.some.inj b').symm
theorem whileS_back {c : BM} {b : SM} {δ st} (h : whileS c b δ st ≠ .stuck) : ∃ n, whileN c b n δ st = some (whileS c b δ st) := by
  by_cases hx : ∃ n r, whileN c b n δ st = some r
  · obtain ⟨n, r, e⟩ := hx
    exact ⟨n, by rw [whileS_of e, e]⟩
  · unfold whileS at h
    rw [dif_neg hx] at h
    exact absurd rfl h
section
variable {X : Cx} {W : WX} {pos : Pos}
theorem gs_while {c : Expr} {body : List Stmt} {mc : BM} {b : SM} (hp : PassesOwn (model X.prog X.w) X.A X.env X.xe) (hc : GT X W c mc) (hb : GSs X W body b) : GS X W (.While c body [] pos) (whileS mc b) := by
  refine PSw (ps_while hp hc hb) fun Dn σ H ⟨ρ, δ, st, k, s, h⟩ => ?_
  have ns : whileS mc b δ st ≠ .stuck := fun e => by rw [e] at h; exact h.elim
  obtain ⟨n, hn⟩ := whileS_back ns
  generalize whileS mc b δ st = r at h hn
  clear ns
  refine ⟨fun m σ1 H1 => ∃ ρ1 δ1 st1, Ok X.K ρ1 st1 H1 ∧ SRl ρ1 H1 δ1 σ1 ∧ whileN mc b m δ1 st1 = some r ∧ PostS X.K ρ1 H1 W Dn r, ⟨n, ρ, δ, st, k, s, hn, h⟩, ?_⟩
  rintro m σ1 H1 ⟨ρ1, δ1, st1, k1, s1, e, h1⟩
  cases m with
  | zero => cases e
  | succ m =>
    unfold whileN at e
    refine ⟨ρ1, δ1, st1, k1, s1, ?_⟩
    cases hcv : mc δ1 st1 with
    | ok t st2 =>
      rw [hcv] at e
      intro ρ2 H2 t' x2 k2 et
      subst et
      cases t with
      | true =>
        refine iteT ⟨fun σ' H' => ∃ ρ1 δ1 st1, Ok X.K ρ1 st1 H' ∧ SRl ρ1 H' δ1 σ' ∧ whileN mc b m δ1 st1 = some r ∧ PostS X.K ρ1 H' W Dn r, fun σ' H' w => ⟨m, Nat.lt_succ_self _, w⟩, ρ2, δ1, st2, k2, s1.mono x2, ?_⟩
        simp only at e
        cases hbv : b δ1 st2 with
        | ok o δ3 st3 =>
          rw [hbv] at e
          intro ρ3 σ3 H3 x3 k3 s3
          cases o with
          | nx => exact ⟨ρ3, δ3, st3, k3, s3, e, h1.ext (x2.trans x3)⟩
          | ct => exact ⟨ρ3, δ3, st3, k3, s3, e, h1.ext (x2.trans x3)⟩
          | bk => cases e; exact h1 ρ3 σ3 H3 (x2.trans x3) k3 s3
          | rt d => cases e; exact h1 ρ3 σ3 H3 (x2.trans x3) k3 s3
        | err C fs δ3 st3 =>
          rw [hbv] at e; cases e
          exact (h1.ext x2)
        | stuck => rw [hbv] at e; cases e; exact h1.elim
      | false =>
        cases e
        exact iteF (h1 ρ2 σ1 H2 x2 k2 (s1.mono x2))
    | err C fs st2 =>
      rw [hcv] at e; cases e
      intro ρ' H' d x k' q
      exact h1 ρ' σ1 H' d x k' (s1.mono x) q
    | stuck => rw [hcv] at e; cases e; exact h1.elim
end

/-! ### defs and their calls -/
def spF (K : PySem.W.Frag) (n : Nat) (F : FM) : Sp := fun vs H Q E => vs.length = n ∧ ∃ ρ ds st, Ok K ρ st H ∧ RlL ρ H ds vs ∧ Post K ρ H E Rl Q (F ds st)
def runF (N : Nat) (m : SM) : FM := fun ds st => match m (ds.map some ++ List.replicate (N - ds.length) none) st with
  | .ok (.rt d) _ st => .ok d st
  | .ok .nx _ st => .ok .non st
  | .err C fs _ st => .err C fs st
  | _ => .stuck
@[simp] def callM (n : Nat) (F : FM) (am : AM) : EM := fun δ st => (am δ st).bind fun ds st => if ds.length = n then F ds st else .stuck
abbrev W0 : WX := fun _ _ _ _ => False
/-- what else must hold of the calls around: nothing (for repr of nested data: that nothing is being shown) -/
abbrev GdOk (A : Around) : Prop := True
/-- a def at f that is its mirror, at level k, where nothing is being shown -/
structure FnG (P : Program) (w : World) (K : PySem.W.Frag) (mg : Str → Option Value) (base : Heap) (k : Nat) (f : Addr) (fd : FuncData) (ps : List Str) (F : FM) : Prop where
  run : ∀ (A : Around) (outer : List Env) (s : Shared) (H : Hp) (args : Args) (us : List Value) (vs : List V) (Q : VK) (E : XK), Room k A → GdOk A → Env0 P w K mg base A outer s H → BindsTo s fd args (ps.zip us) →
    Vals vs us → spF K ps.length F vs H Q E → codeAny (model P w) A (.call (.ref f) args) (CR (L2.CX P w) outer P w H s Q E) s
/-- what a body may lean on -/
structure Body (X : Cx) (W : WX) (P : Program) (w : World) (K : PySem.W.Frag) (mg : Str → Option Value) (base : Heap) (N : List Str) (scope : Scope) (k : Nat) : Prop where
  prog : X.prog = P
  w : X.w = w
  K : X.K = K
  mg : X.mg = mg
  base : X.base = base
  N : X.N = N
  scope : X.env.scope = scope
  calm : X.calm = true
  fn : ∀ y, X.fn y = true
  stack : X.stack = X.env :: X.outer
  frame : X.env.frame = some X.env.locals
  own : PassesOwn (model X.prog X.w) X.A X.env X.xe
  tk : Takes X W
  room : Room k X.A
  gd : GdOk X.A
section
variable {P : Program} {w : World} {K : PySem.W.Frag} {mg : Str → Option Value} {base : Heap} {x qual : Str} {params : Arguments} {body : List Stmt} {scope : Scope} {dvs : List V} {kws : List (Str × V)} {f : Addr} {fd : FuncData}
theorem FnG.mono {j k : Nat} {ps : List Str} {F : FM} (G : FnG P w K mg base j f fd ps F) (h : j ≤ k) : FnG P w K mg base k f fd ps F := ⟨fun A outer s H args us vs Q E hr => G.run A outer s H args us vs Q E (hr.mono h)⟩
theorem fn_g {N ps : List Str} {k : Nat} {m : SM} (F : FunD K x qual params body scope dvs kws f fd) (S : FnScope N ps scope)
    (hbody : ∀ (cdv : Value) (A : Around) (outer : List Env) (s : Shared) (H : Hp) (E : XK), let X := cxOf (L2.CX P w) P w K mg base N qual scope f cdv A outer s H E
      Body X (fun c d _ H => E c d H) P w K mg base N scope k → GSs X (fun c d _ H => E c d H) body m) : FnG P w K mg base (k + 1) f fd ps (runF N.length m) := by
  obtain ⟨oc, od, dV, kV, doc, pm, an, cdv, ct, osl, rfl, lk, hcd, _, _⟩ := F.ex
  refine ⟨fun A outer s H args us vs Q E room gd env0 binds rel sp => ?_⟩
  obtain ⟨hl, ρ, ds, st, ok0, rd, post⟩ := sp
  have inn : K.In s.heap := env0.mod.kin.keeps fun b o e => (env0.bs b o e).1
  have lim : s.heap.NoLimit := env0.mod.nolimit.keeps fun b o e => (env0.bs b o e).1
  have kinds : ∀ y ∈ ps.zip us, scope.names.lookup y.1 = some .local ∨ (scope.names.lookup y.1 = some .cell ∧ ((cellsFrom (s.heap.objs.size + 1) scope.names []).lookup y.1).isSome = true) := fun ⟨n, v⟩ hy =>
    (S.par n (List.of_mem_zip hy).1).imp id fun q => ⟨q, PySem.W.cellsFrom_some _ _ _ (.inl q)⟩
  refine codeAny_call_function room.depth (inn _ _ lk) rfl S.co S.gen rfl (PySem.W.codeRec_of inn hcd) (binds _ _ _ _ ?_)
  refine wpAny_newFunctionEnv_cells S.kind kinds fun env he s1 xin => ?_
  subst he
  refine ⟨lim.keeps xin.toInCall.keep, codeAny_func ?_⟩
  have B : Body (cxOf (L2.CX P w) P w K mg base N qual scope f cdv A outer s H E) (fun c d _ H => E c d H) P w K mg base N scope k :=
    ⟨rfl, rfl, rfl, rfl, rfl, rfl, rfl, rfl, fun _ => rfl, rfl, rfl, passes_of rfl, takes_of rfl rfl rfl rfl, room.deeper _, gd⟩
  have I : Inv (cxOf (L2.CX P w) P w K mg base N qual scope f cdv A outer s H E) [] (start N vs) H s1 := inv_start S room.hd env0 hl rel xin
  have start : tGS K (fun c d _ H => E c d H) m { nx := fun _ H' => Q .non H', rt := Q } (L2.start N vs) H := by
    refine ⟨ρ, _, st, ok0, SRl.start rd N, ?_⟩
    unfold runF at post
    generalize m (ds.map some ++ List.replicate (N.length - ds.length) none) st = res at post
    cases res with
    | ok o δ st1 =>
      intro ρ' σ' H' x k1 s1
      cases o with
      | nx => exact post ρ' H' .non x k1 .non
      | rt d => exact fun v rv => post ρ' H' v x k1 rv
      | bk => exact post.elim
      | ct => exact post.elim
    | err C fs δ st1 => exact fun ρ' σ' H' d x k1 s1 q => post ρ' H' d x k1 q
    | stuck => exact post.elim
  refine wpAny_mono ((hbody cdv A outer s H E B).run [] s1 (L2.start N vs) H _ I start) (fun fl s' hs => ?_) fun e s' hs => hs
  cases fl with
  | ret u => obtain ⟨v, σ', H', J, rv, q⟩ := hs; exact ⟨v, H', J.os, J.bare, J.base, J.hok, rv, q⟩
  | next => obtain ⟨σ', H', J, q⟩ := hs; exact ⟨.non, H', J.os, J.bare, J.base, J.hok, rfl, q⟩
  | brk => obtain ⟨_, _, _, q⟩ := hs; exact q.elim
  | cont => obtain ⟨_, _, _, q⟩ := hs; exact q.elim
/-- another mirror that does more -/
theorem fn_imp {k : Nat} {F G : FM} {ps : List Str} (F0 : FnG P w K mg base k f fd ps F) (h : ∀ ρ H ds vs st Q E, Ok K ρ st H → RlL ρ H ds vs → Post K ρ H E Rl Q (G ds st) → Post K ρ H E Rl Q (F ds st)) :
    FnG P w K mg base k f fd ps G := ⟨fun A outer s H args us vs Q E hr gd e0 hb hv ⟨hl, ρ, ds, st, k, r, q⟩ => F0.run A outer s H args us vs Q E hr gd e0 hb hv ⟨hl, ρ, ds, st, k, r, h ρ H ds vs st Q E k r q⟩⟩
end
section
variable {X : Cx} {W : WX} {k : Nat} {f : Addr} {fd : FuncData} {ps : List Str} {Fm : FM} {x : Str} {p pos : Pos} {e : Expr} {es : List Expr} {am : AM}
/-- the callee runs -/
theorem run_g {pins : List (Addr × Obj)} {σ : St} {H : Hp} {s : Shared} {Q : VK} {us : List Value} {vs : List V} (F : FnG X.prog X.w X.K X.mg X.base k f fd ps Fm) (hr : Room k X.A) (gd : GdOk X.A) (hb : Binds X.K fd ps []) (tk : Takes X W)
    (I : Inv X pins σ H s) (r : Vals vs us) (h : spF X.K ps.length Fm vs H Q (fun c d H => W c d σ H)) : wpAny (model X.prog X.w) X.A (call (.ref f) us) (EP X pins σ Q) X.xe s := by
  have hl : us.length = ps.length := by rw [← r.length]; exact h.1
  have b := hb s us I.kIn (by rw [List.append_nil]; exact hl)
  rw [List.append_nil] at b
  refine wpAny_call (codeAny_mono (F.run X.A X.stack s H ⟨us, []⟩ us vs Q _ hr gd I.env0 b r h) fun res s' hq => ?_)
  cases res with
  | error e => exact passAt tk σ pins H s e s' I hq
  | ok fl =>
    cases fl with
    | ret u => exact I.after hq
    | next => exact False.elim hq
    | brk => exact False.elim hq
    | cont => exact False.elim hq
theorem g_call (F : FnG X.prog X.w X.K X.mg X.base k f fd ps Fm) (hr : Room k X.A) (gd : GdOk X.A) (hg : Gl X x) (hm : X.mg x = some (.ref f)) (hk : PySem.W.keepIn X.K (.ref f) = true) (hb : Binds X.K fd ps []) (tk : Takes X W)
    (ha : GA X W (e :: es) am) (hdb : (x == ("__debug__" : Str)) = false := by decide) (he : starEach (e :: es) X.env = (false, eval e X.env) :: starEach es X.env := by rfl) (hpl : (backTo pos (starEach es X.env)).any (·.1) = false := by rfl) :
    GE X W (.Call (.Name x p) (e :: es) [] pos) (callM ps.length Fm am) := by
  refine ⟨fun pins s σ H Q I ⟨ρ, δ, st, k0, sr, h⟩ => ?_⟩
  have h' : tGA X.K W am σ H fun vs H1 => spF X.K ps.length Fm vs H1 Q (fun c d H => W c d σ H) := ⟨ρ, δ, st, k0, sr, (Post.bind (rel := RlL) h).imp fun vs H1 ⟨ρ1, ds, st1, x1, k1, r1, h1⟩ => by
    split at h1
    · rename_i hl
      exact ⟨by rw [← r1.length]; exact hl, ρ1, ds, st1, k1, r1, h1⟩
    · exact h1.elim⟩
  refine wpAny_Call_Name_kw (ld_glob I hg hm ?_ hdb)
  exact PySem.W.callWith_K (h₀ := X.base) I.ok.mod.kin hk (thn (ha.run pos pins s σ H _ I h') fun us s1 ⟨vs, H1, I1, r, q⟩ => ⟨I1.kIn, run_g F hr gd hb tk I1 r q⟩) he hpl
theorem g_call0 (F : FnG X.prog X.w X.K X.mg X.base k f fd ps Fm) (hr : Room k X.A) (gd : GdOk X.A) (hg : Gl X x) (hm : X.mg x = some (.ref f)) (hk : PySem.W.keepIn X.K (.ref f) = true) (hb : Binds X.K fd ps []) (tk : Takes X W)
    (hdb : (x == ("__debug__" : Str)) = false := by decide) : GE X W (.Call (.Name x p) [] [] pos) (callM ps.length Fm nilM) := by
  refine ⟨fun pins s σ H Q I ⟨ρ, δ, st, k0, sr, h⟩ => ?_⟩
  refine wpAny_Call_Name_kw (ld_glob I hg hm ?_ hdb)
  refine PySem.W.callWith_K0 I.kIn hk (run_g (us := []) (vs := []) F hr gd hb tk I .nil ?_)
  unfold callM nilM at h
  simp only [Res.bind_ok] at h
  split at h
  · rename_i hl
    exact ⟨hl, ρ, [], st, k0, .nil, h⟩
  · exact h.elim
end

/-! ### garbage -/
mutual
def D.lows (n : Nat) : D → Bool
  | .loc l => decide (l < n)
  | .tup ds => D.lowsL n ds
  | _ => true
def D.lowsL (n : Nat) : List D → Bool
  | [] => true
  | d :: ds => D.lows n d && D.lowsL n ds
end
def MO.lows (n : Nat) : MO → Bool
  | .lst xs => D.lowsL n xs
  | .rdl xs => D.lowsL n xs
  | .dK kvs => kvs.all fun p => p.2.lows n
  | .dT kvs => kvs.all fun p => p.2.lows n
  | .fK kvs => kvs.all fun p => p.2.lows n
  | .fT kvs => kvs.all fun p => p.2.lows n
  | .ins _ fs => fs.all fun p => p.2.lows n
mutual
theorem Rl.cut {ρ : List Addr} {H : Hp} {n : Nat} : ∀ {d v}, Rl ρ H d v → d.lows n = true → Rl (ρ.take n) H d v
  | _, _, .non, _ => .non
  | _, _, .bl, _ => .bl
  | _, _, .int, _ => .int
  | _, _, .str, _ => .str
  | _, _, .tup h hz r, b => .tup h hz (RlL.cut r (by unfold D.lows at b; exact b))
  | _, _, .loc h, b => .loc (by unfold D.lows at b; rw [List.getElem?_take_of_lt (of_decide_eq_true b)]; exact h)
  | _, _, .kl, _ => .kl
theorem RlL.cut {ρ : List Addr} {H : Hp} {n : Nat} : ∀ {ds vs}, RlL ρ H ds vs → D.lowsL n ds = true → RlL (ρ.take n) H ds vs
  | _, _, .nil, _ => .nil
  | _, _, .cons r q, b => by
    unfold D.lowsL at b
    obtain ⟨b1, b2⟩ := Bool.and_eq_true_iff.mp b
    exact .cons (Rl.cut r b1) (RlL.cut q b2)
end
theorem KRl.cut {κ : Type} {ρ : List Addr} {H : Hp} {n : Nat} : ∀ {ps : List (κ × D)} {qs : List (κ × V)}, KRl ρ H ps qs → (ps.all fun p => p.2.lows n) = true → KRl (ρ.take n) H ps qs
  | _, _, .nil, _ => .nil
  | _, _, .cons r q, b => by
    rw [List.all_cons] at b
    obtain ⟨b1, b2⟩ := Bool.and_eq_true_iff.mp b
    exact .cons ⟨r.1, r.2.cut b1⟩ (KRl.cut q b2)
theorem Co.cut {K : PySem.W.Frag} {ρ : List Addr} {H : Hp} {a : Addr} {n : Nat} : ∀ {mo}, Co K ρ H a mo → mo.lows n = true → Co K (ρ.take n) H a mo
  | .lst _, ⟨vs, h1, h2, h3⟩, b => ⟨vs, h1, h2, h3.cut b⟩
  | .rdl _, ⟨o, vs, h1, h2, h3⟩, b => ⟨o, vs, h1, h2, h3.cut b⟩
  | .dK _, ⟨ws, h1, h3⟩, b => ⟨ws, h1, h3.cut b⟩
  | .dT _, ⟨ws, h1, h3⟩, b => ⟨ws, h1, h3.cut b⟩
  | .fK _, ⟨o, ws, h1, h3⟩, b => ⟨o, ws, h1, h3.cut b⟩
  | .fT _, ⟨o, ws, h1, h3⟩, b => ⟨o, ws, h1, h3.cut b⟩
  | .ins _ _, ⟨dx, ws, h1, h3⟩, b => ⟨dx, ws, h1, h3.cut b⟩
mutual
theorem Rl.low {ρ : List Addr} {H : Hp} : ∀ {d v}, Rl ρ H d v → d.lows ρ.length = true
  | _, _, .non => by simp [D.lows]
  | _, _, .bl => by simp [D.lows]
  | _, _, .int => by simp [D.lows]
  | _, _, .str => by simp [D.lows]
  | _, _, .tup _ _ r => by simp only [D.lows]; exact RlL.low r
  | _, _, .loc h => by simp only [D.lows]; exact decide_eq_true (List.getElem?_eq_some_iff.mp h).1
  | _, _, .kl => by simp [D.lows]
theorem RlL.low {ρ : List Addr} {H : Hp} : ∀ {ds vs}, RlL ρ H ds vs → D.lowsL ρ.length ds = true
  | _, _, .nil => by simp [D.lowsL]
  | _, _, .cons r q => by simp only [D.lowsL]; rw [Rl.low r, RlL.low q]; rfl
end
theorem KRl.low {κ : Type} {ρ : List Addr} {H : Hp} : ∀ {ps : List (κ × D)} {qs : List (κ × V)}, KRl ρ H ps qs → (ps.all fun p => p.2.lows ρ.length) = true
  | _, _, .nil => rfl
  | _, _, .cons r q => by rw [List.all_cons, r.2.low, KRl.low q]; rfl
theorem Co.low {K : PySem.W.Frag} {ρ : List Addr} {H : Hp} {a : Addr} : ∀ {mo}, Co K ρ H a mo → mo.lows ρ.length = true
  | .lst _, ⟨vs, h1, h2, h3⟩ => h3.low
  | .rdl _, ⟨o, vs, h1, h2, h3⟩ => h3.low
  | .dK _, ⟨ws, h1, h3⟩ => h3.low
  | .dT _, ⟨ws, h1, h3⟩ => h3.low
  | .fK _, ⟨o, ws, h1, h3⟩ => h3.low
  | .fT _, ⟨o, ws, h1, h3⟩ => h3.low
  | .ins _ _, ⟨dx, ws, h1, h3⟩ => h3.low
/-- the objects that stood are as they were, or hold nothing new -/
def Clean (st st' : Store) : Prop := st.length ≤ st'.length ∧ ∀ (i : Nat) (mo : MO), i < st.length → st'[i]? = some mo → st[i]? = some mo ∨ mo.lows st.length = true
open Classical in
/-- what a call leaves behind is cut off: all new objects, or all but one -/
noncomputable def gc (st : Store) (r : Res D) : Res D := match r with
  | .ok d st' => if Clean st st' then (if d.lows st.length = true then .ok d (st'.take st.length) else match d with
      | .loc l => match st'[l]? with
        | some mo => if mo.lows st.length = true then .ok (.loc st.length) (st'.take st.length ++ [mo]) else r
        | none => r
      | _ => r) else r
  | .err C fs st' => if Clean st st' ∧ (fs.all fun p => p.2.lows st.length) = true then .err C fs (st'.take st.length) else r
  | .stuck => .stuck
theorem Ok.cut {K : PySem.W.Frag} {ρ0 ρ : List Addr} {st st' : Store} {H0 H : Hp} (k0 : Ok K ρ0 st H0) (k : Ok K ρ st' H) (x : Ext ρ0 H0 ρ H) (c : Clean st st') : Ok K (ρ.take st.length) (st'.take st.length) H where
  len := by rw [List.length_take, List.length_take, k.len]
  nd := k.nd.sublist (List.take_sublist _ _)
  ob := fun n mo a hs hr => by
    have hn : n < st.length := by
      have := (List.getElem?_eq_some_iff.mp hs).1
      rw [List.length_take] at this; omega
    rw [List.getElem?_take_of_lt hn] at hs hr
    have co := k.ob n mo a hs hr
    rcases c.2 n mo hn hs with e | b
    · obtain ⟨a0, ha0, c0⟩ := k0.addr e
      exact co.cut (by have := c0.low; rw [k0.len] at this; exact this)
    · exact co.cut b
theorem gc_ok {K : PySem.W.Frag} {ρ : List Addr} {st : Store} {H : Hp} {E : WxK} {Q : VK} (k : Ok K ρ st H) : ∀ {r : Res D}, Post K ρ H E Rl Q (gc st r) → Post K ρ H E Rl Q r
  | .stuck, h => h
  | .ok d st', h => by
    unfold gc at h
    simp only at h
    split at h
    · rename_i c
      have ext : ∀ {ρ' H'}, Ext ρ H ρ' H' → Ext ρ H (ρ'.take st.length) H' := fun {ρ' H'} x => ⟨⟨[], by
        obtain ⟨⟨t, rfl⟩, _⟩ := x
        rw [← k.len]; simp⟩, x.im, x.fz⟩
      split at h
      · rename_i b
        intro ρ' H' v x k' r
        exact h (ρ'.take st.length) H' v (ext x) (k.cut k' x c) (r.cut b)
      · rename_i hb
        cases d with
        | loc l =>
          simp only at h
          split at h
          · rename_i mo hs
            split at h
            · rename_i b
              intro ρ' H' v x k' r
              cases r with
              | loc ha =>
                rename_i a
                have hl : st.length ≤ l := by
                  rcases Nat.lt_or_ge l st.length with z | z
                  · exact absurd (show D.lows st.length (.loc l) = true from by unfold D.lows; exact decide_eq_true z) hb
                  · exact z
                have c1 := k.cut k' x c
                have co := (k'.ob l mo a hs ha).cut b
                have na : a ∉ ρ'.take st.length := fun hm => by
                  obtain ⟨n, hn, e⟩ := List.mem_iff_getElem.mp hm
                  have hn2 : n < st.length := by rw [List.length_take] at hn; omega
                  have h1 : ρ'[n]? = some a := by
                    have : (ρ'.take st.length)[n]? = some a := List.getElem?_eq_some_iff.mpr ⟨hn, e⟩
                    rwa [List.getElem?_take_of_lt hn2] at this
                  obtain ⟨q1, e1⟩ := List.getElem?_eq_some_iff.mp h1
                  obtain ⟨q2, e2⟩ := List.getElem?_eq_some_iff.mp ha
                  have := (List.getElem_inj k'.nd).mp (e1.trans e2.symm)
                  omega
                have lt : (ρ'.take st.length).length = st.length := by
                  rw [List.length_take, k'.len]; have := c.1; omega
                have e1 : Ext ρ H (ρ'.take st.length ++ [a]) H' := ⟨by obtain ⟨t, e⟩ := (ext x).pre; exact ⟨t ++ [a], by rw [e]; simp⟩, x.im, x.fz⟩
                have e2 : Ext (ρ'.take st.length) H' (ρ'.take st.length ++ [a]) H' := ⟨⟨[a], rfl⟩, fun _ _ z => z, fun _ _ _ z => z⟩
                refine h (ρ'.take st.length ++ [a]) H' _ e1 ⟨?_, ?_, ?_⟩ (.loc (by rw [List.getElem?_append_right (by omega)]; simp [lt]))
                · rw [List.length_append, List.length_append, c1.len]; rfl
                · refine List.nodup_append.mpr ⟨c1.nd, by simp, fun z hz y hy e => ?_⟩
                  have : y = a := by simpa using hy
                  subst this; subst e; exact na hz
                · intro n m y hs' hr'
                  have lt2 : (st'.take st.length).length = st.length := by rw [← c1.len]; exact lt
                  by_cases hn : n < st.length
                  · rw [List.getElem?_append_left (by omega)] at hs' hr'
                    exact (c1.ob n m y hs' hr').mono e2 rfl
                  · rw [List.getElem?_append_right (by omega)] at hs' hr'
                    have hz : n - st.length = 0 := by
                      have := (List.getElem?_eq_some_iff.mp hs').1
                      simp at this; omega
                    rw [lt2] at hs'; rw [lt] at hr'
                    simp only [hz] at hs' hr'
                    simp at hs' hr'
                    subst hs'; subst hr'
                    exact co.mono e2 rfl
            · exact h
          · exact h
        | non => exact h
        | bl _ => exact h
        | int _ => exact h
        | str _ => exact h
        | tup _ => exact h
        | kl _ => exact h
    · exact h
  | .err C fs st', h => by
    unfold gc at h
    simp only at h
    split at h
    · rename_i c
      intro ρ' H' d x k' q
      refine h (ρ'.take st.length) H' d ⟨⟨[], by
        obtain ⟨⟨t, rfl⟩, _⟩ := x
        rw [← k.len]; simp⟩, x.im, x.fz⟩ (k.cut k' x c.1) ?_
      rcases q with q | ⟨a, ws, h1, h2, h3⟩
      · exact .inl q
      · exact .inr ⟨a, ws, h1, h2, h3.cut c.2⟩
    · exact h
noncomputable def gcF (F : FM) : FM := fun ds st => gc st (F ds st)
theorem fn_gc {P : Program} {w : World} {K : PySem.W.Frag} {mg : Str → Option Value} {base : Heap} {f : Addr} {fd : FuncData} {k : Nat} {F : FM} {ps : List Str} (F0 : FnG P w K mg base k f fd ps F) :
    FnG P w K mg base k f fd ps (gcF F) := fn_imp F0 fun ρ H ds vs st Q E k0 r q => gc_ok k0 q
end Fx
/-! Fx4: loops and comprehensions over what is walked. -/
namespace Fx
open PySem PySem.Spec PyProof.Rows L2

/-- what a loop walks: the items, and what of the store must stand as it is -/
structure ItD where
  xs : List D
  gs : List (Nat × MO) := []
def gok (gs : List (Nat × MO)) (st : Store) : Prop := ∀ g ∈ gs, st[g.1]? = some g.2
theorem gok_nil {st : Store} : gok [] st := fun _ h => nomatch h
theorem gok_one {l : Nat} {mo : MO} {st : Store} : gok [(l, mo)] st ↔ st[l]? = some mo := ⟨fun h => h (l, mo) (by simp), fun h g hg => by
  have : g = (l, mo) := by simpa using hg
  subst this; exact h⟩
def WalkG (K : PySem.W.Frag) (ρ0 : List Addr) (H0 : Hp) (it : ItD) (J : It) : Prop := ∀ ρ st H, Ext ρ0 H0 ρ H → Ok K ρ st H → gok it.gs st →
  (∀ i, i < it.xs.length → J.go i H) ∧ J.stop it.xs.length H ∧ ∀ i x H', i < it.xs.length → J.yld i H x H' → Ext ρ H ρ H' ∧ Ok K ρ st H' ∧ ∃ d, it.xs[i]? = some d ∧ Rl ρ H' d x
abbrev IM := En → Store → Res ItD
def tGI (K : PySem.W.Frag) (W : WX) (m : IM) : TI := fun σ H R => ∃ ρ δ st, Ok K ρ st H ∧ SRl ρ H δ σ ∧ Post K ρ H (fun c d => W c d σ) (fun ρ H it J => WalkG K ρ H it J) R (m δ st)
abbrev GI (X : Cx) (W : WX) (tg iter : Expr) (m : IM) : Prop := PI X tg iter (tGI X.K W m)
theorem PIw {X : Cx} {tg e : Expr} {t t' : TI} (h : PI X tg e t) (w : ∀ σ H Q, t' σ H Q → t σ H Q) : PI X tg e t' := ⟨fun pins s σ H R I q => h.run pins s σ H R I (w _ _ _ q)⟩

/-! ### for -/
open Classical in
noncomputable def forGo (gs : List (Nat × MO)) (g : TGM) (b : SM) : List D → En → Store → SRes
  | [], δ, st => if gok gs st then .ok .nx δ st else .stuck
  | x :: xs, δ, st => if gok gs st then (match g x δ st with
      | .ok .nx δ st => (match b δ st with
        | .ok .nx δ st => forGo gs g b xs δ st
        | .ok .ct δ st => forGo gs g b xs δ st
        | .ok .bk δ st => .ok .nx δ st
        | .ok (.rt d) δ st => .ok (.rt d) δ st
        | .err C fs δ st => .err C fs δ st
        | .stuck => .stuck)
      | .err C fs δ st => .err C fs δ st
      | _ => .stuck) else .stuck
noncomputable def forS (im : IM) (g : TGM) (b : SM) : SM := fun δ st => bindE (im δ st) δ fun it st => forGo it.gs g b it.xs δ st
section
variable {X : Cx} {W : WX} {pos : Pos}
theorem drop_cons {α : Type} {xs : List α} {i : Nat} (h : i < xs.length) : ∃ x, xs[i]? = some x ∧ xs.drop i = x :: xs.drop (i + 1) :=
  ⟨xs[i], by simp [h], (List.getElem_cons_drop h).symm⟩
theorem gs_for {tg iter : Expr} {body : List Stmt} {im : IM} {g : TGM} {b : SM} (hp : PassesOwn (model X.prog X.w) X.A X.env X.xe) (hc : X.calm = true) (hi : GI X W tg iter im) (hg : GG X W tg g) (good : GoodG g) (hb : GSs X W body b)
    (hs : ∀ x, foldedSetIterable iter X.env x = pure x := by intro _; rfl) : GS X W (.For tg iter body [] pos) (forS im g b) := by
  refine PSw (ps_for hp hc hi hg hb hs) fun Dn σ H ⟨ρ, δ, st, k, s, h⟩ => ?_
  refine ⟨ρ, δ, st, k, s, (PostS.bindE (rel := fun ρ H it J => WalkG X.K ρ H it J) s h).imp fun J H1 ⟨ρ1, it, st1, x1, k1, wk, h1⟩ => ?_⟩
  obtain ⟨xs, gs⟩ := it
  simp only at h1
  refine ⟨fun i m σ2 H2 => i ≤ xs.length ∧ m = xs.length - i ∧ ∃ ρ2 δ2 st2, Ext ρ1 H1 ρ2 H2 ∧ Ok X.K ρ2 st2 H2 ∧ SRl ρ2 H2 δ2 σ2 ∧ PostS X.K ρ2 H2 W Dn (forGo gs g b (xs.drop i) δ2 st2),
    ⟨xs.length, Nat.zero_le _, by simp, ρ1, δ, st1, .refl, k1, s.mono x1, by simpa using h1⟩, ?_⟩
  rintro i m σ2 H2 ⟨hi, rfl, ρ2, δ2, st2, x2, k2, s2, h2⟩
  by_cases hlt : i < xs.length
  · obtain ⟨x, hx, hd⟩ := drop_cons hlt
    rw [hd] at h2
    unfold forGo at h2
    split at h2
    · rename_i gk
      obtain ⟨w1, w2, w3⟩ := wk ρ2 st2 H2 x2 k2 gk
      refine .inr ⟨w1 i hlt, fun σ' H' => ∃ ρ3 δ3 st3, Ext ρ1 H1 ρ3 H' ∧ Ok X.K ρ3 st3 H' ∧ SRl ρ3 H' δ3 σ' ∧ PostS X.K ρ3 H' W Dn (forGo gs g b (xs.drop (i + 1)) δ3 st3),
        fun σ' H' q => ⟨xs.length - (i + 1), by omega, hlt, rfl, q⟩, fun xv H3 y => ?_⟩
      obtain ⟨x3, k3, d, hd2, r⟩ := w3 i xv H3 hlt y
      rw [hx] at hd2; cases hd2
      refine ⟨ρ2, δ2, st2, x, k3, s2.mono x3, r, ?_⟩
      rcases good x δ2 st2 with ⟨δ4, st4, e⟩ | ⟨C, fs, δ4, st4, e⟩ | e
      · rw [e] at h2 ⊢
        simp only at h2
        intro ρ5 σ5 H5 x5 k5 s5
        refine ⟨ρ5, δ4, st4, k5, s5, ?_⟩
        have h3 : PostS X.K ρ5 H5 W Dn _ := h2.ext (x3.trans x5)
        generalize b δ4 st4 = br at h3
        cases br with
        | ok o δ6 st6 =>
          intro ρ6 σ6 H6 x6 k6 s6
          cases o with
          | nx => exact ⟨ρ6, δ6, st6, x2.trans (x3.trans (x5.trans x6)), k6, s6, PostS.ext x6 h3⟩
          | ct => exact ⟨ρ6, δ6, st6, x2.trans (x3.trans (x5.trans x6)), k6, s6, PostS.ext x6 h3⟩
          | bk => exact h3 ρ6 σ6 H6 x6 k6 s6
          | rt d => exact h3 ρ6 σ6 H6 x6 k6 s6
        | err C fs δ6 st6 => exact h3
        | stuck => exact h3
      · rw [e] at h2 ⊢
        exact PostS.ext x3 h2
      · rw [e] at h2; exact h2.elim
    · exact h2.elim
  · have e : i = xs.length := by omega
    subst e
    rw [List.drop_length] at h2
    unfold forGo at h2
    split at h2
    · rename_i gk
      obtain ⟨w1, w2, w3⟩ := wk ρ2 st2 H2 x2 k2 gk
      exact .inl ⟨w2, h2.now k2 s2⟩
    · exact h2.elim
end

/-! ### comprehensions -/
/-- a target within a block: the other slots stay -/
def tGGv (K : PySem.W.Frag) (vs : List Nat) (g : TGM) : TG := fun v σ H Q => ∃ ρ δ st d, Ok K ρ st H ∧ SRl ρ H δ σ ∧ Rl ρ H d v ∧ PostS K ρ H W0 { nx := fun σ' H' => wipe σ' vs = wipe σ vs → Q σ' H', rt := fun _ _ => False } (g d δ st)
abbrev GGv (X : Cx) (vs : List Nat) (t : Expr) (g : TGM) : Prop := PG X t (tGGv X.K vs g)
def tGGsv (K : PySem.W.Frag) (vs : List Nat) (g : TGsM) : TGs := fun us σ H Q => ∃ ρ δ st ds, Ok K ρ st H ∧ SRl ρ H δ σ ∧ RlL ρ H ds us ∧ PostS K ρ H W0 { nx := fun σ' H' => wipe σ' vs = wipe σ vs → Q σ' H', rt := fun _ _ => False } (g ds δ st)
abbrev GGsv (X : Cx) (vs : List Nat) (t : List Expr) (g : TGsM) : Prop := PGs X t (tGGsv X.K vs g)
theorem wipe_get {σ : St} : ∀ {vs : List Nat} {j : Nat}, (wipe σ vs)[j]? = if j ∈ vs then (σ[j]?).map (fun _ => none) else σ[j]?
  | [], j => by simp [wipe]
  | v :: vs, j => by
    unfold wipe
    by_cases h : v = j
    · subst h
      by_cases hv : v < (wipe σ vs).length
      · rw [List.getElem?_set_self hv, if_pos (by simp)]
        rw [wipe_length] at hv
        simp [hv]
      · rw [List.getElem?_eq_none (by simpa using hv), if_pos (by simp)]
        rw [wipe_length] at hv
        simp at hv
        simp [hv]
    · rw [List.getElem?_set_ne h, wipe_get]
      by_cases hj : j ∈ vs
      · simp [hj]
      · simp [hj, Ne.symm h]
theorem wipe_set {σ : St} {vs : List Nat} {i : Nat} {x : Option V} (h : i ∈ vs) : wipe (σ.set i x) vs = wipe σ vs := by
  apply List.ext_getElem?
  intro j
  rw [wipe_get, wipe_get]
  by_cases hj : j ∈ vs
  · rw [if_pos hj, if_pos hj]
    by_cases e : i = j
    · subst e
      by_cases hl : i < σ.length
      · rw [List.getElem?_set_self hl]; simp [hl]
      · rw [List.getElem?_eq_none (by simpa using hl), List.getElem?_eq_none (by simpa using hl)]
    · rw [List.getElem?_set_ne e]
  · rw [if_neg hj, if_neg hj]
    have e : i ≠ j := fun e => hj (e ▸ h)
    rw [List.getElem?_set_ne e]
section
variable {X : Cx} {e : Expr} {es : List Expr} {g : TGM} {r : TGsM} {pos : Pos} {vs : List Nat}
theorem ggv_name {i : Nat} {x : Str} (hv : i ∈ vs) (hN : X.N.Nodup) (hi : X.N[i]? = some x) (hx : Loc X.env.scope x) (hf : X.fn x = true ∨ X.env.scope.names.lookup x = some .local := by first | exact .inl rfl | exact .inr rfl | assumption) : GGv X vs (.Name x pos) (nameG i) :=
  PGw (pg_name hN hi hx hf) fun v σ H Q ⟨ρ, δ, st, d, k, s, rv, h⟩ => PostS.now (W := W0) k (SRl.set (x := some d) (y := some v) rv i s) h (wipe_set hv)
theorem ggsv_nil : GGsv X vs [] nilG := PGsw pgs_nil fun us σ H Q ⟨ρ, δ, st, ds, k, s, rv, h⟩ => by
  cases rv with
  | nil => exact ⟨rfl, PostS.now (W := W0) k s h rfl⟩
  | cons _ _ => exact h.elim
theorem ggsv_cons (h1 : GGv X vs e g) (h2 : GGsv X vs es r) (hs : (assignEach (e :: es) X.env).map (·.2) = assign e X.env :: (assignEach es X.env).map (·.2) := by rfl) : GGsv X vs (e :: es) (consG g r) := by
  refine PGsw (pgs_cons h1 h2 hs) fun us σ H Q ⟨ρ, δ, st, ds, k, s, rv, h⟩ => ?_
  cases rv with
  | nil => exact h.elim
  | cons r1 q1 =>
    refine ⟨_, _, rfl, ρ, δ, st, _, k, s, r1, ?_⟩
    have q := PostS.bind h
    refine (show _ → _ from ?_) q
    generalize g _ δ st = gr
    cases gr with
    | ok o δ' st' =>
      intro q ρ' σ' H' x k' s'
      have z := q ρ' σ' H' x k' s'
      cases o with
      | nx =>
        obtain ⟨ρ1, δ1, st1, x1, k1, s1, h1⟩ := z
        intro hw
        refine ⟨ρ1, δ1, st1, _, k1, s1, q1.mono x1, ?_⟩
        generalize r _ δ1 st1 = rr at h1
        cases rr with
        | ok o δ5 st5 =>
          intro ρ5 σ5 H5 x5 k5 s5
          have z5 := h1 ρ5 σ5 H5 x5 k5 s5
          cases o with
          | nx => exact fun hw2 => z5 (hw2.trans hw)
          | rt d => exact z5
          | bk => exact z5
          | ct => exact z5
        | err C fs δ5 st5 => exact h1
        | stuck => exact h1
      | rt d => exact z
      | bk => exact z
      | ct => exact z
    | err C fs δ' st' => exact fun q => q
    | stuck => exact fun q => q
theorem ggv_tup {k n : Nat} (hc : X.calm = true) (h : GGsv X vs es r) (hn : (assignEach es X.env).length = n := by rfl) (hst : (assignEach es X.env).findIdx? (·.1) = none := by rfl) : GGv X vs (.Tuple es k pos) (tupG n r) := by
  refine PGw (pg_tup hc h hn hst) fun v σ H Q ⟨ρ, δ, st, d, k, s, rv, h⟩ => ?_
  unfold tupG at h
  split at h
  · split at h
    · rename_i hl
      cases rv with
      | tup ha hz q =>
        exact ⟨_, _, rfl, SqT.of ha, by rw [← q.length]; exact hl, ρ, δ, st, _, k, s, q, h⟩
    · exact h.elim
  · exact h.elim
end
def yesB : BM := fun _ st => .ok true st
open Classical in
noncomputable def lcGo (gs : List (Nat × MO)) (g : TGM) (c : BM) (e : EM) (δ : En) (n : Nat) : List D → Store → Res D
  | [], st => if gok gs st then .ok (.loc n) st else .stuck
  | x :: xs, st => if gok gs st then (match g x δ st with
      | .ok .nx δ1 st => (match c δ1 st with
        | .ok true st => (match e δ1 st with
          | .ok d st => (match st[n]? with
            | some (.lst ds) => if ds.length < sizeLine then lcGo gs g c e δ n xs (st.set n (.lst (ds ++ [d]))) else .stuck
            | _ => .stuck)
          | _ => .stuck)
        | .ok false st => lcGo gs g c e δ n xs st
        | _ => .stuck)
      | _ => .stuck) else .stuck
noncomputable def lcM (im : IM) (g : TGM) (c : BM) (e : EM) (vs : List Nat) : EM := fun δ st => (im δ st).bind fun it st => lcGo it.gs g c e (wipeD δ vs) st.length it.xs (st ++ [.lst []])
section
variable {X : Cx} {W : WX} {pos : Pos}
theorem tLc_of {K : PySem.W.Frag} {im : IM} {g : TGM} {c : BM} {e : EM} {vs : List Nat} (good : GoodG g) {σ : St} {H : Hp} {Q : VK} (h : tG K W (lcM im g c e vs) σ H Q) :
    tLc (tGI K W im) (tGGv K vs g) (tGB K W0 c) (tG K W0 e) vs σ H Q := by
  obtain ⟨ρ, δ, st, k, s, h⟩ := h
  refine ⟨ρ, δ, st, k, s, (Post.bind (rel := fun ρ H it J => WalkG K ρ H it J) h).imp fun J H1 ⟨ρ1, it, st1, x1, k1, wk, h1⟩ => ?_⟩
  obtain ⟨xs, gs⟩ := it
  simp only at h1
  intro D hD
  have k2 : Ok K (ρ1 ++ [D]) (st1 ++ [.lst []]) (upd H1 D (.lst [])) := k1.new hD ⟨[], upd_same, Nat.zero_le _, .nil⟩
  have x2 : Ext ρ1 H1 (ρ1 ++ [D]) (upd H1 D (.lst [])) := Ext.new hD
  have hDn : (ρ1 ++ [D])[st1.length]? = some D := by rw [← k1.len]; simp
  refine ⟨fun i m H2 => i ≤ xs.length ∧ m = xs.length - i ∧ ∃ ρ2 st2, Ext (ρ1 ++ [D]) (upd H1 D (.lst [])) ρ2 H2 ∧ Ok K ρ2 st2 H2 ∧ Post K ρ2 H2 (fun c d => W c d σ) Rl Q (lcGo gs g c e (wipeD δ vs) st1.length (xs.drop i) st2),
    ⟨xs.length, Nat.zero_le _, by simp, _, _, .refl, k2, by simpa using h1.ext x2⟩, ?_⟩
  rintro i m H2 ⟨hi, rfl, ρ2, st2, e2, k2, h2⟩
  have hDn2 := e2.at hDn
  by_cases hlt : i < xs.length
  · obtain ⟨x, hx, hd⟩ := drop_cons hlt
    rw [hd] at h2
    unfold lcGo at h2
    split at h2
    · rename_i gk
      obtain ⟨w1, w2, w3⟩ := wk ρ2 st2 H2 (x2.trans e2) k2 gk
      refine .inr ⟨w1 i hlt, fun H' => ∃ ρ3 st3, Ext (ρ1 ++ [D]) (upd H1 D (.lst [])) ρ3 H' ∧ Ok K ρ3 st3 H' ∧ Post K ρ3 H' (fun c d => W c d σ) Rl Q (lcGo gs g c e (wipeD δ vs) st1.length (xs.drop (i + 1)) st3),
        fun H' q => ⟨xs.length - (i + 1), by omega, hlt, rfl, q⟩, fun xv H3 y => ?_⟩
      obtain ⟨x3, k3, d, hd2, r⟩ := w3 i xv H3 hlt y
      rw [hx] at hd2; cases hd2
      have s2 : SRl ρ2 H2 δ σ := s.mono (x1.trans (x2.trans e2))
      refine ⟨ρ2, wipeD δ vs, st2, x, k3, (s2.mono x3).wipe vs, r, ?_⟩
      rcases good x (wipeD δ vs) st2 with ⟨δ4, st4, eg⟩ | ⟨C, fs, δ4, st4, eg⟩ | eg
      · rw [eg] at h2 ⊢
        simp only at h2
        intro ρ5 σ5 H5 x5 k5 s5 hw
        have ww : wipe (wipe σ vs) vs = wipe σ vs := by
          apply List.ext_getElem?
          intro j
          by_cases hj : j ∈ vs
          · simp [wipe_get, hj]; cases σ[j]? <;> rfl
          · simp [wipe_get, hj]
        refine ⟨hw.trans ww, ?_⟩
        refine ⟨ρ5, δ4, st4, k5, s5, ?_⟩
        have h3 := h2.ext (x3.trans x5)
        cases hcv : c δ4 st4 with
        | ok t st6 =>
          rw [hcv] at h3
          intro ρ6 H6 b6 x6 k6 eb
          subst eb
          cases t with
          | true =>
            refine iteT ⟨ρ6, δ4, st6, k6, s5.mono x6, ?_⟩
            simp only at h3
            cases hev : e δ4 st6 with
            | ok d7 st7 =>
              rw [hev] at h3
              simp only at h3
              intro ρ7 H7 y7 x7 k7 r7
              have xx : Ext (ρ1 ++ [D]) (upd H1 D (.lst [])) ρ7 H7 := e2.trans (x3.trans (x5.trans (x6.trans x7)))
              split at h3
              · rename_i ds hds
                have hr := xx.at hDn
                obtain ⟨us, hu, hz, q⟩ := k7.lstAt hr hds
                split at h3
                · rename_i hzz
                  have lq := q.length
                  refine ⟨us, hu, by omega, ρ7, _, xx.trans (Ext.wr hu fun _ z => nomatch z), k7.set (mo := .lst (ds ++ [d7])) hds hr ⟨us ++ [y7], upd_same, by rw [List.length_append]; simp; omega, ?_⟩, h3.ext (x6.trans (x7.trans (Ext.wr hu fun _ z => nomatch z)))⟩
                  exact (q.append (.cons r7 .nil)).mono (Ext.wr hu fun _ z => nomatch z)
                · exact h3.elim
              · exact h3.elim
            | err C fs st7 => rw [hev] at h3; exact h3.elim
            | stuck => rw [hev] at h3; exact h3.elim
          | false => exact iteF ⟨ρ6, st6, e2.trans (x3.trans (x5.trans x6)), k6, h3.ext x6⟩
        | err C fs st6 => rw [hcv] at h3; exact h3.elim
        | stuck => rw [hcv] at h3; exact h3.elim
      · rw [eg] at h2; exact h2.elim
      · rw [eg] at h2; exact h2.elim
    · exact h2.elim
  · have ei : i = xs.length := by omega
    subst ei
    rw [List.drop_length] at h2
    unfold lcGo at h2
    split at h2
    · rename_i gk
      obtain ⟨w1, w2, w3⟩ := wk ρ2 st2 H2 (x2.trans e2) k2 gk
      exact .inl ⟨w2, h2.now k2 (.loc hDn2)⟩
    · exact h2.elim
abbrev GTs (X : Cx) (es : List Expr) (m : BM) : Prop := PTs X es (tGB X.K W0 m)
theorem gts_nil : GTs X [] yesB := ⟨fun pins s σ H Q I ⟨ρ, δ, st, k, s', h⟩ => pts_nil.run pins s σ H Q I (h.now k rfl)⟩
theorem gts_one {c : Expr} {m : BM} (h : GT X W0 c m) : GTs X [c] m := pts_one h
theorem g_lc {elt tg iter : Expr} {ifs : List Expr} {scope : Scope} {own : List (Str × Nat)} {im : IM} {g : TGM} {c : BM} {e : EM} (hc : X.calm = true) (hN : X.N.Nodup) (hi : GI X W tg iter im) (ok : BlkOk X.N X.env.scope scope own)
    (hg : ∀ (s : Shared) (H : Hp) (C : Addr) (cl : List (Str × Addr)) (fp : List Addr), GGv (X.blk s H scope (compEnvC scope cl C X.env) fp) (own.map (·.2)) tg g) (good : GoodG g)
    (ht : ∀ (s : Shared) (H : Hp) (C : Addr) (cl : List (Str × Addr)) (fp : List Addr), GTs (X.blk s H scope (compEnvC scope cl C X.env) fp) ifs c)
    (he : ∀ (s : Shared) (H : Hp) (C : Addr) (cl : List (Str × Addr)) (fp : List Addr), GE (X.blk s H scope (compEnvC scope cl C X.env) fp) W0 elt e) (hs : ∀ x, foldedSetIterable iter X.env x = pure x := by intro _; rfl) :
    GE X W (.ListComp elt [⟨tg, iter, ifs, 0⟩] scope pos) (lcM im g c e (own.map (·.2))) :=
  PEw (pe_lc hc hN hi ok hg ht he hs) fun _ _ _ h => tLc_of good h
theorem gs_setLc {i : Nat} {y : Str} {py spos : Pos} {elt tg iter : Expr} {ifs : List Expr} {scope : Scope} {own : List (Str × Nat)} {im : IM} {g : TGM} {c : BM} {e : EM} (hc : X.calm = true) (hN : X.N.Nodup) (hy : X.N[i]? = some y) (hyl : X.env.scope.names.lookup y = some .local)
    (hsw : swapsWith (.ListComp elt [⟨tg, iter, ifs, 0⟩] scope pos) (some (.Name y py)) spos.line X.env = pure true) (hi : GI X W tg iter im) (ok : BlkOk X.N X.env.scope scope own)
    (hg : ∀ (s : Shared) (H : Hp) (C : Addr) (cl : List (Str × Addr)) (fp : List Addr), GGv (X.blk s H scope (compEnvC scope cl C X.env) fp) (own.map (·.2)) tg g) (good : GoodG g)
    (ht : ∀ (s : Shared) (H : Hp) (C : Addr) (cl : List (Str × Addr)) (fp : List Addr), GTs (X.blk s H scope (compEnvC scope cl C X.env) fp) ifs c)
    (he : ∀ (s : Shared) (H : Hp) (C : Addr) (cl : List (Str × Addr)) (fp : List Addr), GE (X.blk s H scope (compEnvC scope cl C X.env) fp) W0 elt e) (hs : ∀ x, foldedSetIterable iter X.env x = pure x := by intro _; rfl) :
    GS X W (.Assign [.Name y py] (.ListComp elt [⟨tg, iter, ifs, 0⟩] scope pos) spos) (setS i (lcM im g c e (own.map (·.2)))) := by
  refine PSw (ps_setLc (te := tG X.K W0 e) (g := tGGv X.K (own.map (·.2)) g) (tt := tGB X.K W0 c) hc hN hy hyl hsw hi ok hg ht he hs) fun Dn σ H ⟨ρ, δ, st, k, s, h⟩ => ?_
  refine tLc_of (Q := fun x H1 => gName i x σ H1 Dn.nx) good ⟨ρ, δ, st, k, s, (PostS.bindE (rel := Rl) s h).imp fun v H1 ⟨ρ1, d, st1, x, k1, r, h1⟩ => ?_⟩
  exact h1.now k1 (SRl.set (x := some d) (y := some v) r i (s.mono x))
theorem takesB {X : Cx} : Takes X W0 := takes0
end

/-! ### what is walked -/
/-- a list, a tuple -/
def seqI (m : EM) : IM := fun δ st => (m δ st).bind fun d st => match d with
  | .tup ds => .ok ⟨ds, []⟩ st
  | .loc l => match st[l]? with
    | some (.lst ds) => .ok ⟨ds, [(l, .lst ds)]⟩ st
    | some (.rdl ds) => .ok ⟨ds, [(l, .rdl ds)]⟩ st
    | _ => .stuck
  | _ => .stuck
theorem PI.or {X : Cx} {tg e : Expr} {t t' : TI} (h : PI X tg e t) (h' : PI X tg e t') : PI X tg e (fun σ H R => t σ H R ∨ t' σ H R) := ⟨fun pins s σ H R I q => by
  rcases q with q | q
  · exact h.run pins s σ H R I q
  · exact h'.run pins s σ H R I q⟩
theorem PE.or {X : Cx} {e : Expr} {t t' : TE} (h : PE X e t) (h' : PE X e t') : PE X e (fun σ H R => t σ H R ∨ t' σ H R) := ⟨fun pins s σ H R I q => by
  rcases q with q | q
  · exact h.run pins s σ H R I q
  · exact h'.run pins s σ H R I q⟩
theorem RlL.at {ρ H} {ds : List D} {vs : List V} (q : RlL ρ H ds vs) {i : Nat} {x : V} (h : vs[i]? = some x) : ∃ d, ds[i]? = some d ∧ Rl ρ H d x := q.get h
theorem walkG_tup {K : PySem.W.Frag} {ρ : List Addr} {H : Hp} {a : Addr} {vs : List V} {ds : List D} (ha : H a = some (.tup vs)) (q : RlL ρ H ds vs) : WalkG K ρ H ⟨ds, []⟩ (Itt K a) := by
  intro ρ1 st1 H1 x k _
  have ha1 := SqT.of (K := K) (x.im _ _ ha)
  have hl := q.length
  refine ⟨fun i hi => ⟨vs, vs[i]'(by simp only at hi; omega), ha1, by simp⟩, ⟨vs, ha1, by simp only; omega⟩, fun i xv H' hi y => ?_⟩
  obtain ⟨rfl, y⟩ := y
  obtain ⟨d, hd, r⟩ := q.get (y vs ha1)
  exact ⟨.refl, k, d, hd, r.mono x⟩
theorem walkG_lst {K : PySem.W.Frag} {ρ : List Addr} {H : Hp} {l : Nat} {a : Addr} {ds : List D} (hr : ρ[l]? = some a) : WalkG K ρ H ⟨ds, [(l, .lst ds)]⟩ (Itl K a) := by
  intro ρ1 st1 H1 x k g
  have hs := gok_one.mp g
  obtain ⟨vs, hv, hz, q⟩ := k.lstAt (x.at hr) hs
  have ha1 := SqL.of (K := K) hv
  have hl := q.length
  refine ⟨fun i hi => ⟨vs, vs[i]'(by simp only at hi; omega), ha1, by simp⟩, ⟨vs, ha1, by simp only; omega⟩, fun i xv H' hi y => ?_⟩
  obtain ⟨rfl, y⟩ := y
  obtain ⟨d, hd, r⟩ := q.get (y vs ha1)
  exact ⟨.refl, k, d, hd, r⟩
theorem walkG_rdl {K : PySem.W.Frag} {ρ : List Addr} {H : Hp} {l : Nat} {a : Addr} {ds : List D} (hr : ρ[l]? = some a) : WalkG K ρ H ⟨ds, [(l, .rdl ds)]⟩ (Itl K a) := by
  intro ρ1 st1 H1 x k g
  have hs := gok_one.mp g
  obtain ⟨o, vs, hv, hz, q⟩ := k.ob l _ a hs (x.at hr)
  have ha1 : SqL K H1 a vs := .inl (.inr ⟨o, hv⟩)
  have hl := q.length
  refine ⟨fun i hi => ⟨vs, vs[i]'(by simp only at hi; omega), ha1, by simp⟩, ⟨vs, ha1, by simp only; omega⟩, fun i xv H' hi y => ?_⟩
  obtain ⟨rfl, y⟩ := y
  obtain ⟨d, hd, r⟩ := q.get (y vs ha1)
  exact ⟨.refl, k, d, hd, r⟩

section
variable {K : PySem.W.Frag} {W : WX} {ρ : List Addr} {δ : En} {st st1 : Store} {σ : St} {H : Hp} {m : EM}
theorem tG_ok {Q : VK} {d : D} (k : Ok K ρ st H) (s : SRl ρ H δ σ) (hm : m δ st = .ok d st1) (h : ∀ ρ' H' v, Ext ρ H ρ' H' → Ok K ρ' st1 H' → Rl ρ' H' d v → Q v H') : tG K W m σ H Q := ⟨ρ, δ, st, k, s, by rw [hm]; exact h⟩
theorem tG_err {Q : VK} {α β : Type} {rel : List Addr → Hp → α → β → Prop} {Q2 : β → Hp → Prop} {C fs} (k : Ok K ρ st H) (s : SRl ρ H δ σ) (hm : m δ st = .err C fs st1) (h : Post K ρ H (fun c d => W c d σ) rel Q2 (.err C fs st1)) : tG K W m σ H Q := ⟨ρ, δ, st, k, s, by rw [hm]; exact h⟩
end
section
variable {X : Cx} {W : WX} {pos p : Pos} {tg : Expr}
theorem gi_seq {e : Expr} {m : EM} (he : GE X W e m) : GI X W tg e (seqI m) := by
  refine PIw (PI.or (pi_list he) (pi_tup he)) fun σ H R ⟨ρ, δ, st, k, s, h⟩ => ?_
  unfold seqI at h
  cases hm : m δ st with
  | ok d st1 =>
    rw [hm] at h
    simp only [Res.bind_ok] at h
    split at h
    · refine .inr (tG_ok k s hm fun ρ' H' v x k' r => ?_)
      cases r with
      | tup ha hz q => exact ⟨_, rfl, ⟨_, SqT.of ha⟩, h ρ' H' _ x k' (walkG_tup ha q)⟩
    · split at h
      · rename_i hs
        refine .inl (tG_ok k s hm fun ρ' H' v x k' r => ?_)
        cases r with
        | loc hr =>
          obtain ⟨vs, hv, hz, q⟩ := k'.lstAt hr hs
          exact ⟨_, rfl, ⟨_, SqL.of hv⟩, h ρ' H' _ x k' (walkG_lst hr)⟩
      · rename_i hs
        refine .inl (tG_ok k s hm fun ρ' H' v x k' r => ?_)
        cases r with
        | loc hr =>
          obtain ⟨o, vs, hv, hz, q⟩ := k'.ob _ _ _ hs hr
          exact ⟨_, rfl, ⟨_, .inl (.inr ⟨o, hv⟩)⟩, h ρ' H' _ x k' (walkG_rdl hr)⟩
      · exact h.elim
    · exact h.elim
  | err C fs st1 => rw [hm] at h; exact .inl (tG_err k s hm h)
  | stuck => rw [hm] at h; exact h.elim
/-! range -/
def rangeL (lo : Int) (n : Nat) : List D := (List.range n).map fun i : Nat => D.int (lo + (i : Int))
theorem rangeL_len {lo n} : (rangeL lo n).length = n := by simp [rangeL]
theorem walkG_range {K : PySem.W.Frag} {ρ : List Addr} {H : Hp} {lo : Int} {n : Nat} : WalkG K ρ H ⟨rangeL lo n, []⟩ (Itr lo n) := by
  intro ρ1 st1 H1 x k _
  simp only [rangeL_len]
  refine ⟨fun i hi => hi, Nat.le_refl _, fun i xv H' hi y => ?_⟩
  obtain ⟨rfl, rfl⟩ := y
  exact ⟨.refl, k, .int (lo + i), by simp [rangeL, hi], .int⟩
def range1I (am : AM) : IM := fun δ st => (am δ st).bind fun ds st => match ds with
  | [.int j] => if -(2 ^ 62) ≤ j ∧ j < 2 ^ 62 then .ok ⟨rangeL 0 j.toNat, []⟩ st else .stuck
  | _ => .stuck
def range2I (am : AM) : IM := fun δ st => (am δ st).bind fun ds st => match ds with
  | [.int i, .int j] => if -(2 ^ 62) ≤ i ∧ i < 2 ^ 62 ∧ -(2 ^ 62) ≤ j ∧ j < 2 ^ 62 then .ok ⟨rangeL i (j - i).toNat, []⟩ st else .stuck
  | _ => .stuck
theorem gi_range1 {a : Expr} {m : AM} (hg : Gl X "range") (hm : X.mg "range" = none) (ha : GA X W [a] m) (hs : starEach [a] X.env = [(false, eval a X.env)] := by rfl) : GI X W tg (.Call (.Name "range" p) [a] [] pos) (range1I m) := by
  refine PIw (pi_range1 hg hm ha hs) fun σ H R ⟨ρ, δ, st, k, s, h⟩ => ?_
  refine ⟨ρ, δ, st, k, s, (Post.bind (rel := RlL) h).imp fun vs H1 ⟨ρ1, ds, st1, x1, k1, r1, h1⟩ => ?_⟩
  split at h1
  · split at h1
    · rename_i hj
      cases r1 with
      | cons r1 q =>
        cases q
        cases r1
        exact ⟨_, rfl, hj.1, hj.2, h1 ρ1 H1 _ .refl k1 walkG_range⟩
    · exact h1.elim
  · exact h1.elim
theorem gi_range2 {a b : Expr} {m : AM} (hg : Gl X "range") (hm : X.mg "range" = none) (ha : GA X W [a, b] m) (hs : starEach [a, b] X.env = [(false, eval a X.env), (false, eval b X.env)] := by rfl) (hs2 : starEach [b] X.env = [(false, eval b X.env)] := by rfl) :
    GI X W tg (.Call (.Name "range" p) [a, b] [] pos) (range2I m) := by
  refine PIw (pi_range2 hg hm ha hs hs2) fun σ H R ⟨ρ, δ, st, k, s, h⟩ => ?_
  refine ⟨ρ, δ, st, k, s, (Post.bind (rel := RlL) h).imp fun vs H1 ⟨ρ1, ds, st1, x1, k1, r1, h1⟩ => ?_⟩
  split at h1
  · split at h1
    · rename_i hj
      cases r1 with
      | cons r1 q =>
        cases q with
        | cons r2 q =>
          cases q
          cases r1
          cases r2
          exact ⟨_, _, rfl, hj, h1 ρ1 H1 _ .refl k1 walkG_range⟩
    · exact h1.elim
  · exact h1.elim
end

/-! enumerate(tuple): a walk of our own -/
end Fx
namespace PySem
open Sem (wp)
set_option maxHeartbeats 4000000 in
theorem fx_meets_enumerate_new1 {v : Value} {o : Obj} {H : Heap → Prop} (B : Begins v o H) :
    Meets (Builtin.«enumerate.__new__» ⟨[.type "enumerate", v], []⟩) (fun _ R s => H s.heap ∧
      R (.ok (.ret (.ref (s.heap.push o).objs.size))) { s with heap := (s.heap.push o).push { cls := .type "enumerate", data := .fields #[.none, .bool false, .ref s.heap.objs.size, rawInt 0, .none, .none] } }) :=
  .of_wp fun prog w A R s h => by
    obtain ⟨hp, g, d, tk, os⟩ := s; obtain ⟨h1, h⟩ := h
    have hsub := sub_enumerate
    have q1 : ∀ {A' : Around} {E : Value → Shared → Prop} {Q : Value → Shared → Prop}, Q (.ref hp.objs.size) ⟨hp.push o, g, d, tk, os⟩ → wpAny (model prog w) A' (pyIter v) Q E ⟨hp, g, d, tk, os⟩ :=
      fun q => B.iter prog w _ _ ⟨hp, g, d, tk, os⟩ _ h1 q
    wp_walk using q1
    refine wpAny_stack_any fun st => wpAny_pure ?_
    split
    · rename_i c _ _ _ _ _
      cases (c == Value.type "enumerate")
      · wp_walk using q1
        exact ⟨_, rfl, h⟩
      · wp_walk using q1
        exact ⟨_, rfl, h⟩
    · wp_walk using q1
      exact ⟨_, rfl, h⟩
theorem fx_enum_begins1 {prog : Program} {w : World} {A : Around} {E : Value → Shared → Prop} {s : Shared} {v : Value} {o : Obj} {H : Heap → Prop} {Q : Value → Shared → Prop} (B : Begins v o H) (h1 : H s.heap)
    (h : ∀ h', IsEnum h' (s.heap.objs.size + 1) s.heap.objs.size 0 .none → h'.get? s.heap.objs.size = some o → h'.objs.size = s.heap.objs.size + 2 →
      (∀ b o, s.heap.get? b = some o → h'.get? b = some o) → Q (.ref (s.heap.objs.size + 1)) { s with heap := h' }) :
    wpAny (model prog w) A (call (.type "enumerate") [v]) Q E s := by
  refine callType_new F.called_enumerate (by decide) (F.typeCall_enumerate_1 _) (F.newCall_enumerate_1 _) (fun obj => F.args_object_init_2 obj _) F.entry_enumerate_new
    (fx_meets_enumerate_new1 B) ⟨h1, ?_⟩
  have hz : (s.heap.push o).objs.size = s.heap.objs.size + 1 := Heap.size_push ..
  show _ ∧ _
  rw [hz]
  have he : IsEnum ((s.heap.push o).push { cls := .type "enumerate", data := .fields #[.none, .bool false, .ref s.heap.objs.size, rawInt 0, .none, .none] }) (s.heap.objs.size + 1) s.heap.objs.size 0 .none := by
    have := Heap.get?_push_size (s.heap.push o) (o := { cls := .type "enumerate", data := .fields #[.none, .bool false, .ref s.heap.objs.size, rawInt 0, .none, .none] }) rfl
    rw [hz] at this; exact this
  refine ⟨⟨_, he, rfl⟩, h _ he (Heap.get?_push_of_some _ (Heap.get?_push_size _ B.free)) (by rw [Heap.size_push, hz]) fun b o x => Heap.get?_push_of_some _ (Heap.get?_push_of_some _ x)⟩
end PySem
namespace Fx
open PySem PySem.Spec PyProof.Rows L2
section
/-- the tuple at a, each item in a new pair -/
def IteT (K : PySem.W.Frag) (a : Addr) : It :=
  ⟨fun i H => ∃ (xs : List V) (x : V), SqT K H a xs ∧ xs[i]? = some x, fun i H v H' => ∃ T x, v = .ref T ∧ H T = none ∧ H' = upd H T (.tup [.int (i : Nat), x]) ∧ ∀ xs, SqT K H a xs → xs[i]? = some x, fun i H => ∃ xs : List V, SqT K H a xs ∧ xs.length = i⟩
theorem turn_enumT {P : Program} {w : World} {K : PySem.W.Frag} {elts : List Expr} {kk : Nat} {tpos : Pos} (a e it : Addr) :
    Turn P w K (.Tuple elts kk tpos) (IteT K a) [e, it] e (fun i h => (∃ old, IsEnum h e it ((i : Nat) : Int) old) ∧ h.IsTupleIter it a i ∧ e ≠ it ∧ a ≠ it ∧ a ≠ e) where
  mem := by simp
  obj := fun i h st b hb => by
    obtain ⟨⟨old, he⟩, ⟨o, ho, hc, hd⟩, _⟩ := st
    have e' : b = e ∨ b = it := by simpa using hb
    rcases e' with z | z
    · rw [z]; exact ⟨_, he, fun v q => nomatch q⟩
    · rw [z]; exact ⟨o, ho, fun v q => by rw [hd] at q; cases q⟩
  keep := fun i h h' st k => let ⟨⟨old, he⟩, hi, hne⟩ := st; ⟨⟨old, k e (by simp) _ he⟩, hi.at fun o q => k it (by simp) o q, hne⟩
  item := by
    intro X hP hw hK hc i pins s σ H E I hf st hg
    subst hP hw hK
    obtain ⟨⟨old, he⟩, hit, hne, hai, hae⟩ := st
    obtain ⟨xs, x, hq, hx⟩ := hg
    obtain ⟨its, rv, p, hz⟩ := I.tuple hq
    obtain ⟨u, hu, ru⟩ := rv.get hx
    have hel : e < s.heap.objs.size := Heap.lt_size he
    have hil : it < s.heap.objs.size := by obtain ⟨_, q, _⟩ := hit; exact Heap.lt_size q
    have hlt : i < its.toArray.size := by
      have := (List.getElem?_eq_some_iff.mp hu).1
      simpa using this
    refine wpAny_pyNext_enum_itemD (Draws.tuple (show X.A.in1.handled = none from I.ok.hd hc) it a hai its.toArray) he ⟨hit, p⟩ hlt hne (by simp [hne, Ne.symm hae]) fun xv h' tk hpx ho hst' hT hsz hk => ?_
    obtain ⟨hit', _⟩ := hst'
    have exv : xv = u := by
      rw [show its.toArray[i]? = its[i]? by simp, hu] at hpx
      exact (Option.some.inj hpx).symm
    subst exv
    refine ⟨_, rfl, wpAny_letOwnedTupleGo_enum (s := { s with heap := h', toks := tk + 1 }) ho fun h'' he' sb => ?_⟩
    have hT2 : h''.get? s.heap.objs.size = some { cls := .type "tuple", data := .seq #[.int i tk, xv] } := (sb.2 _ (Nat.ne_of_gt hel)).trans hT
    have new : ObjOk X.prog X.w (upd H s.heap.objs.size (.tup [.int (i : Nat), x])) h'' s.heap.objs.size (.tup [.int (i : Nat), x]) :=
      ⟨by show 2 ≤ sizeLine; decide, [.int i tk, xv], .cons ⟨_, rfl⟩ (.cons ru .nil), ⟨_, hT2, rfl, _, rfl⟩⟩
    have I1 : Inv X pins σ (upd H s.heap.objs.size (.tup [.int (i : Nat), x])) { s with heap := h'', toks := tk + 1 } :=
      I.turnedNew (ch := [e, it]) (fun b ob hb q => (sb.2 b (fun z => hb (by simp [z]))).trans (hk b ob (fun z => hb (by simp [z])) (fun z => hb (by simp [z])) q)) hf (Nat.le_refl _) new
    refine ⟨.ref s.heap.objs.size, _, I1, rfl, ⟨_, x, rfl, I.hok.fresh (Nat.le_refl _), rfl, fun ys hy => by rw [I.tuple_inj hy hq]; exact hx⟩, ⟨⟨xv, ?_⟩, hit'.at fun o q => (sb.2 it (Ne.symm hne)).trans q, hne, hai, hae⟩, fun b hb => ?_⟩
    · have e1 : ((i + 1 : Nat) : Int) = (i : Int) + 1 := by omega
      rw [e1]; exact he'
    · have hb' : b < s.heap.objs.size := by
        have e' : b = e ∨ b = it := by simpa using hb
        rcases e' with z | z
        · rw [z]; exact hel
        · rw [z]; exact hil
      rw [upd_ne (Nat.ne_of_lt hb')]
      exact (hf b hb).1
  done := by
    intro X hP hw hK hc i pins s σ H E I hf st hg
    subst hP hw hK
    obtain ⟨⟨old, he⟩, hit, hne, hai, hae⟩ := st
    obtain ⟨xs, hq, hx⟩ := hg
    obtain ⟨its, rv, p, hz⟩ := I.tuple hq
    obtain ⟨f0, f1, f2, f3, f4, f5⟩ := hf it (by simp)
    have hl := rv.length
    refine wpAny_pyNext_enum_endD (Draws.tuple (show X.A.in1.handled = none from I.ok.hd hc) it a hai its.toArray) he ⟨?_, p⟩ fun h' eb => ⟨rfl, I.turned (t' := s.toks) (fun b o hb q => eb b o hb q) f0 f1 f3 f4 f5⟩
    have : i = its.toArray.size := by simp; omega
    rw [← this]; exact hit
  self := fun A i s Q E st h => let ⟨⟨_, he⟩, _⟩ := st; wpAny_pyIter_enum he h
def iEnumT (K : PySem.W.Frag) (ta : TA) : TI := fun σ H R => ta σ H fun vs H1 => ∃ a xs, vs = [.ref a] ∧ H1 a = some (.tup xs) ∧ R (IteT K a) H1
theorem pi_enumT {X : Cx} {e : Expr} {ta : TA} {p pos tpos : Pos} {elts : List Expr} {kk : Nat} (hg : Gl X "enumerate") (hm : X.mg "enumerate" = none) (ha : PA X [e] ta) (hs : starEach [e] X.env = [(false, eval e X.env)] := by rfl) :
    PI X (.Tuple elts kk tpos) (.Call (.Name "enumerate" p) [e] [] pos) (iEnumT X.K ta) := by
  refine ⟨fun pins s σ H R I h => ?_⟩
  refine Call_ (ld_blt I hg hm boot_enumerate (PyProof.Rows.callWith_type1 (thn (ha.run pos pins s σ H _ I h) fun us s1 ⟨vs, H1, I1, r1, q1⟩ => ?_) hs rfl))
  obtain ⟨a, xs, ex, hq, q⟩ := q1
  subst ex
  cases r1 with
  | cons r rr =>
    cases rr
    cases r
    obtain ⟨its, rv, p', hz⟩ := I1.tuple (SqT.of (K := X.K) hq)
    refine fx_enum_begins1 (begins_tuple a its.toArray) p' fun h' he hit hsz hk => wpAny_pyIter_enum he ?_
    have I2 : Inv X pins σ H1 { s1 with heap := h' } := I1.kept (t' := s1.toks) hk
    have hal : a < s1.heap.objs.size := I1.hok.lt hq
    refine ⟨s1.heap.objs.size + 1, [s1.heap.objs.size + 1, s1.heap.objs.size], _, _, H1, rfl, I2, turn_enumT a (s1.heap.objs.size + 1) s1.heap.objs.size, ⟨⟨.none, he⟩, ⟨_, hit, rfl, rfl⟩, Nat.succ_ne_self _, Nat.ne_of_lt hal, Nat.ne_of_lt (Nat.lt_succ_of_lt hal)⟩, fun b hb => ?_, q⟩
    have e' : b = s1.heap.objs.size + 1 ∨ b = s1.heap.objs.size := by simpa using hb
    have hle : s1.heap.objs.size ≤ b := by
      rcases e' with z | z
      · rw [z]; exact Nat.le_add_right _ _
      · rw [z]; exact Nat.le_refl _
    exact I1.fpOk hle (I1.hok.fresh hle)
/-- the items with their numbers -/
def enumL (ds : List D) : List D := (List.range ds.length).zipWith (fun i d => D.tup [.int (i : Nat), d]) ds
theorem enumL_len {ds} : (enumL ds).length = ds.length := by simp [enumL]
theorem enumL_at {ds : List D} {i : Nat} {d : D} (h : ds[i]? = some d) : (enumL ds)[i]? = some (.tup [.int (i : Nat), d]) := by
  have hl := (List.getElem?_eq_some_iff.mp h).1
  have e : (List.range ds.length)[i]? = some i := by simp [hl]
  simp [enumL, List.getElem?_zipWith, e, h]
def enumI (am : AM) : IM := fun δ st => (am δ st).bind fun ds st => match ds with
  | [.tup ds] => .ok ⟨enumL ds, []⟩ st
  | [.loc l] => match st[l]? with
    | some (.lst ds) => .ok ⟨enumL ds, [(l, .lst ds)]⟩ st
    | _ => .stuck
  | _ => .stuck
theorem newPair {K : PySem.W.Frag} {ρ : List Addr} {st : Store} {H : Hp} {T : Addr} {x y : V} {d e : D} (k : Ok K ρ st H) (hT : H T = none) (r1 : Rl ρ H d x) (r2 : Rl ρ H e y) :
    Ext ρ H ρ (upd H T (.tup [x, y])) ∧ Ok K ρ st (upd H T (.tup [x, y])) ∧ Rl ρ (upd H T (.tup [x, y])) (.tup [d, e]) (.ref T) :=
  ⟨Ext.tup hT, k.tup hT, .tup upd_same (by show 2 ≤ sizeLine; decide) (.cons (r1.mono (Ext.tup hT)) (.cons (r2.mono (Ext.tup hT)) .nil))⟩
theorem walkG_enumT {K : PySem.W.Frag} {ρ : List Addr} {H : Hp} {a : Addr} {vs : List V} {ds : List D} (ha : H a = some (.tup vs)) (q : RlL ρ H ds vs) : WalkG K ρ H ⟨enumL ds, []⟩ (IteT K a) := by
  intro ρ1 st1 H1 x k _
  have ha1 := SqT.of (K := K) (x.im _ _ ha)
  have hl := q.length
  simp only [enumL_len]
  refine ⟨fun i hi => ⟨vs, vs[i]'(by omega), ha1, by simp⟩, ⟨vs, ha1, by omega⟩, fun i xv H' hi y => ?_⟩
  obtain ⟨T, z, rfl, hT, rfl, y⟩ := y
  obtain ⟨d, hd, r⟩ := q.get (y vs ha1)
  obtain ⟨e1, e2, e3⟩ := newPair k hT (.int (i := (i : Nat))) (r.mono x)
  exact ⟨e1, e2, _, enumL_at hd, e3⟩
theorem walkG_enumL {K : PySem.W.Frag} {ρ : List Addr} {H : Hp} {l : Nat} {a : Addr} {ds : List D} (hr : ρ[l]? = some a) : WalkG K ρ H ⟨enumL ds, [(l, .lst ds)]⟩ (Ite K a) := by
  intro ρ1 st1 H1 x k g
  have hs := gok_one.mp g
  obtain ⟨vs, hv, hz, q⟩ := k.lstAt (x.at hr) hs
  have ha1 := SqL.of (K := K) hv
  have hl := q.length
  simp only [enumL_len]
  refine ⟨fun i hi => ⟨vs, vs[i]'(by omega), ha1, by simp⟩, ⟨vs, ha1, by omega⟩, fun i xv H' hi y => ?_⟩
  obtain ⟨T, z, rfl, hT, rfl, y⟩ := y
  obtain ⟨d, hd, r⟩ := q.get (y vs ha1)
  obtain ⟨e1, e2, e3⟩ := newPair k hT (.int (i := (i : Nat))) r
  exact ⟨e1, e2, _, enumL_at hd, e3⟩
theorem gi_enum {X : Cx} {W : WX} {e : Expr} {m : AM} {p pos tpos : Pos} {elts : List Expr} {kk : Nat} (hg : Gl X "enumerate") (hm : X.mg "enumerate" = none) (ha : GA X W [e] m) (hs : starEach [e] X.env = [(false, eval e X.env)] := by rfl) :
    GI X W (.Tuple elts kk tpos) (.Call (.Name "enumerate" p) [e] [] pos) (enumI m) := by
  refine PIw (PI.or (pi_enum hg hm ha hs) (pi_enumT hg hm ha hs)) fun σ H R ⟨ρ, δ, st, k, s, h⟩ => ?_
  unfold enumI at h
  cases hm : m δ st with
  | ok ds st1 =>
    rw [hm] at h
    simp only [Res.bind_ok] at h
    split at h
    · refine .inr ⟨ρ, δ, st, k, s, ?_⟩
      rw [hm]
      intro ρ' H' vs x k' r
      cases r with
      | cons r1 q1 =>
        cases q1
        cases r1 with
        | tup ha hz q => exact ⟨_, _, rfl, ha, h ρ' H' _ x k' (walkG_enumT ha q)⟩
    · split at h
      · rename_i hs
        refine .inl ⟨ρ, δ, st, k, s, ?_⟩
        rw [hm]
        intro ρ' H' vs x k' r
        cases r with
        | cons r1 q1 =>
          cases q1
          cases r1 with
          | loc hr =>
            obtain ⟨vs, hv, hz, q⟩ := k'.lstAt hr hs
            exact ⟨_, _, rfl, SqL.of hv, h ρ' H' _ x k' (walkG_enumL hr)⟩
      · exact h.elim
    · exact h.elim
  | err C fs st1 => rw [hm] at h; exact .inl ⟨ρ, δ, st, k, s, by rw [hm]; exact h⟩
  | stuck => rw [hm] at h; exact h.elim
/-- zip of two lists, of two tuples -/
def zipL (xs ys : List D) : List D := xs.zipWith (fun x y => D.tup [x, y]) ys
theorem zipL_len {xs ys} : (zipL xs ys).length = min xs.length ys.length := by simp [zipL]
theorem zipL_at {xs ys : List D} {i : Nat} {x y : D} (h : xs[i]? = some x) (h2 : ys[i]? = some y) : (zipL xs ys)[i]? = some (.tup [x, y]) := by
  simp [zipL, List.getElem?_zipWith, h, h2]
def zipI (am : AM) : IM := fun δ st => (am δ st).bind fun ds st => match ds with
  | [.tup xs, .tup ys] => .ok ⟨zipL xs ys, []⟩ st
  | [.loc l, .loc l'] => match st[l]?, st[l']? with
    | some (.lst xs), some (.lst ys) => .ok ⟨zipL xs ys, [(l, .lst xs), (l', .lst ys)]⟩ st
    | _, _ => .stuck
  | _ => .stuck
theorem walkG_zipT {K : PySem.W.Frag} {ρ : List Addr} {H : Hp} {a b : Addr} {vs us : List V} {xs ys : List D} (ha : H a = some (.tup vs)) (q : RlL ρ H xs vs) (hb : H b = some (.tup us)) (q' : RlL ρ H ys us) : WalkG K ρ H ⟨zipL xs ys, []⟩ (RZ.ItzT K a b) := by
  intro ρ1 st1 H1 x k _
  have ha1 := SqT.of (K := K) (x.im _ _ ha)
  have hb1 := SqT.of (K := K) (x.im _ _ hb)
  have hl := q.length
  have hl' := q'.length
  simp only [zipL_len]
  refine ⟨fun i hi => ⟨vs, us, vs[i]'(by omega), us[i]'(by omega), ha1, hb1, by simp, by simp⟩, ⟨vs, us, ha1, hb1, by omega⟩, fun i xv H' hi y => ?_⟩
  obtain ⟨T, z, z', rfl, hT, rfl, y, y'⟩ := y
  obtain ⟨d, hd, r⟩ := q.get (y vs ha1)
  obtain ⟨d', hd', r'⟩ := q'.get (y' us hb1)
  obtain ⟨e1, e2, e3⟩ := newPair k hT (r.mono x) (r'.mono x)
  exact ⟨e1, e2, _, zipL_at hd hd', e3⟩
theorem walkG_zipL {K : PySem.W.Frag} {ρ : List Addr} {H : Hp} {l l' : Nat} {a b : Addr} {xs ys : List D} (hr : ρ[l]? = some a) (hr' : ρ[l']? = some b) : WalkG K ρ H ⟨zipL xs ys, [(l, .lst xs), (l', .lst ys)]⟩ (Itz K a b) := by
  intro ρ1 st1 H1 x k g
  have hs := g (l, .lst xs) (by simp)
  have hs' := g (l', .lst ys) (by simp)
  obtain ⟨vs, hv, hz, q⟩ := k.lstAt (x.at hr) hs
  obtain ⟨us, hv', hz', q'⟩ := k.lstAt (x.at hr') hs'
  have ha1 := SqL.of (K := K) hv
  have hb1 := SqL.of (K := K) hv'
  have hl := q.length
  have hl' := q'.length
  simp only [zipL_len]
  refine ⟨fun i hi => ⟨vs, us, vs[i]'(by omega), us[i]'(by omega), ha1, hb1, by simp, by simp⟩, ⟨vs, us, ha1, hb1, by omega⟩, fun i xv H' hi y => ?_⟩
  obtain ⟨T, z, z', rfl, hT, rfl, y, y'⟩ := y
  obtain ⟨d, hd, r⟩ := q.get (y vs ha1)
  obtain ⟨d', hd', r'⟩ := q'.get (y' us hb1)
  obtain ⟨e1, e2, e3⟩ := newPair k hT r r'
  exact ⟨e1, e2, _, zipL_at hd hd', e3⟩
theorem gi_zip {X : Cx} {W : WX} {e e2 : Expr} {m : AM} {p pos tpos : Pos} {elts : List Expr} {kk : Nat} (hg : Gl X "zip") (hm : X.mg "zip" = none) (ha : GA X W [e, e2] m)
    (hs : starEach [e, e2] X.env = (false, eval e X.env) :: starEach [e2] X.env := by rfl) (hpl : (backTo pos (starEach [e2] X.env)).any (·.1) = false := by rfl) :
    GI X W (.Tuple elts kk tpos) (.Call (.Name "zip" p) [e, e2] [] pos) (zipI m) := by
  refine PIw (RZ.pi_zipA hg hm ha hs hpl) fun σ H R ⟨ρ, δ, st, k, s, h⟩ => ?_
  refine ⟨ρ, δ, st, k, s, (Post.bind (rel := RlL) h).imp fun vs H1 ⟨ρ1, ds, st1, x1, k1, r1, h1⟩ => ?_⟩
  split at h1
  · cases r1 with
    | cons r1 q1 =>
      cases q1 with
      | cons r2 q2 =>
        cases q2
        cases r1 with
        | tup ha hz q =>
          cases r2 with
          | tup hb hz' q' => exact ⟨_, _, _, _, rfl, .inr ⟨SqT.of ha, SqT.of hb, h1 ρ1 H1 _ .refl k1 (walkG_zipT ha q hb q')⟩⟩
  · split at h1
    · rename_i hs hs'
      cases r1 with
      | cons r1 q1 =>
        cases q1 with
        | cons r2 q2 =>
          cases q2
          cases r1 with
          | loc hr =>
            cases r2 with
            | loc hr' =>
              obtain ⟨vs, hv, hz, q⟩ := k1.lstAt hr hs
              obtain ⟨us, hv', hz', q'⟩ := k1.lstAt hr' hs'
              exact ⟨_, _, _, _, rfl, .inl ⟨SqL.of hv, SqL.of hv', h1 ρ1 H1 _ .refl k1 (walkG_zipL hr hr')⟩⟩
    · exact h1.elim
  · exact h1.elim
end
/-! dicts of ints and texts, walked while they are locked: the dict stands in a slot -/
def kD : Key → D
  | .inl i => .int i
  | .inr x => .str x
theorem kD_rl {ρ : List Addr} {H : Hp} : ∀ k : Key, Rl ρ H (kD k) (kV k)
  | .inl _ => .int
  | .inr _ => .str
theorem KRl.get {κ : Type} {ρ : List Addr} {H : Hp} : ∀ {ps : List (κ × D)} {qs : List (κ × V)} {i : Nat} {q : κ × V}, KRl ρ H ps qs → qs[i]? = some q → ∃ d, ps[i]? = some (q.1, d) ∧ Rl ρ H d q.2
  | _, _, _, _, .nil, h => by simp at h
  | _, _, 0, _, .cons (a := a) r _, h => by
    simp at h; subst h
    exact ⟨a.2, by simp [← r.1], r.2⟩
  | _, _, i + 1, q, .cons _ t, h => by
    obtain ⟨d, h1, h2⟩ := KRl.get (i := i) (q := q) t (by simpa using h)
    exact ⟨d, by simpa using h1, h2⟩
inductive DWalk where
  | keys | values | items
def DWalk.of : DWalk → List (Key × D) → List D
  | .keys, kvs => kvs.map fun p => kD p.1
  | .values, kvs => kvs.map (·.2)
  | .items, kvs => kvs.map fun p => .tup [kD p.1, p.2]
def dlock (l : Nat) (st : Store) : Option (List D → List D) := none
end Fx
/-! Fx5: subscripts, dicts, methods, built-ins. -/
namespace Fx
open PySem PySem.Spec PyProof.Rows L2

/-! ### dicts: look up and put -/
section
variable {κ : Type} [DecidableEq κ]
def getK (kvs : List (κ × D)) (k : κ) : Option D := (kvs.find? fun kv => decide (kv.1 = k)).map (·.2)
def putD (kvs : List (κ × D)) (k : κ) (v : D) : List (κ × D) :=
  if (kvs.any fun kv => decide (kv.1 = k)) = true then kvs.map (fun kv => if kv.1 = k then (kv.1, v) else kv) else kvs ++ [(k, v)]
def ORl2 (ρ : List Addr) (H : Hp) : Option D → Option V → Prop
  | some d, some v => Rl ρ H d v
  | none, none => True
  | _, _ => False
theorem KRl.val {ρ : List Addr} {H : Hp} (k : κ) : ∀ {ps : List (κ × D)} {qs : List (κ × V)}, KRl ρ H ps qs → ORl2 ρ H (getK ps k) (valV qs k)
  | _, _, .nil => trivial
  | _, _, .cons (a := a) (b := b) r t => by
    by_cases e : a.1 = k
    · have e' : b.1 = k := r.1.symm.trans e
      rw [valV_pos e']
      simp only [getK, List.find?_cons, e, decide_true, Option.map_some]
      exact r.2
    · have e' : ¬ b.1 = k := fun z => e (r.1.trans z)
      rw [valV_neg e']
      have ih := KRl.val k t
      simp only [getK, List.find?_cons, e, decide_false] at ih ⊢
      exact ih
theorem KRl.any {ρ : List Addr} {H : Hp} (k : κ) : ∀ {ps : List (κ × D)} {qs : List (κ × V)}, KRl ρ H ps qs → (ps.any fun kv => decide (kv.1 = k)) = (qs.any fun kv => decide (kv.1 = k))
  | _, _, .nil => rfl
  | _, _, .cons r t => by rw [List.any_cons, List.any_cons, r.1, KRl.any k t]
theorem KRl.append {ρ : List Addr} {H : Hp} : ∀ {ps ps' : List (κ × D)} {qs qs' : List (κ × V)}, KRl ρ H ps qs → KRl ρ H ps' qs' → KRl ρ H (ps ++ ps') (qs ++ qs')
  | _, _, _, _, .nil, s => s
  | _, _, _, _, .cons r t, s => .cons r (KRl.append t s)
theorem KRl.put {ρ : List Addr} {H : Hp} {k : κ} {d : D} {v : V} {ps : List (κ × D)} {qs : List (κ × V)} (h : KRl ρ H ps qs) (r : Rl ρ H d v) : KRl ρ H (putD ps k d) (putK qs k v) := by
  unfold putD putK
  rw [h.any k]
  split
  · rename_i ha
    clear ha
    induction h with
    | nil => exact .nil
    | cons r' t ih =>
      rw [List.map_cons, List.map_cons]
      refine .cons ?_ ih
      rename_i a b _ _
      by_cases e : a.1 = k
      · rw [if_pos e, if_pos (r'.1.symm.trans e)]; exact ⟨r'.1, r⟩
      · rw [if_neg e, if_neg (fun z => e (r'.1.trans z))]; exact r'
  · exact h.append (.cons ⟨rfl, r⟩ .nil)
theorem KRl.length {ρ : List Addr} {H : Hp} {ps : List (κ × D)} {qs : List (κ × V)} (h : KRl ρ H ps qs) : ps.length = qs.length := paired_length h
end
@[simp] def keyOf : D → Option Key
  | .int i => some (.inl i)
  | .str x => some (.inr x)
  | _ => none
@[simp] def keysOf : List D → Option (List Key)
  | [] => some []
  | d :: ds => match keyOf d, keysOf ds with
    | some k, some ks => some (k :: ks)
    | _, _ => none
@[simp] def keyTOf : D → Option (List Key)
  | .tup ds => keysOf ds
  | _ => none
@[simp] theorem keysOf_ints (ns : List Int) : keysOf (ns.map D.int) = some (ns.map Sum.inl) := by
  induction ns with
  | nil => rfl
  | cons n ns ih => simp [keysOf, keyOf, ih]
theorem keyOf_ok {ρ : List Addr} {H : Hp} {d : D} {v : V} {k : Key} (e : keyOf d = some k) (r : Rl ρ H d v) : v = kV k := by
  cases r <;> simp [keyOf] at e
  · subst e; rfl
  · subst e; rfl
theorem keysOf_ok {ρ : List Addr} {H : Hp} : ∀ {ds : List D} {vs : List V} {ks : List Key}, keysOf ds = some ks → RlL ρ H ds vs → vs = ks.map kV
  | [], _, _, e, q => by cases e; cases q; rfl
  | d :: ds, _, ks, e, q => by
    cases q with
    | cons r q =>
      unfold keysOf at e
      split at e
      · rename_i k ks' e1 e2
        cases e
        rw [keyOf_ok e1 r, keysOf_ok e2 q]; rfl
      · cases e
/-- what a dict in the store tells of a key -/
@[simp] def dGet (st : Store) (l : Nat) (y : D) : Option (Option D) := match st[l]? with
  | some (.dK kvs) => (keyOf y).map (getK kvs)
  | some (.fK kvs) => (keyOf y).map (getK kvs)
  | some (.dT kvs) => (keyTOf y).map (getK kvs)
  | some (.fT kvs) => (keyTOf y).map (getK kvs)
  | _ => none
theorem dGet_ok {K : PySem.W.Frag} {ρ : List Addr} {st : Store} {H : Hp} (k : Ok K ρ st H) {l : Nat} {a : Addr} {y : D} {v : V} {o : Option D} (ha : ρ[l]? = some a) (r : Rl ρ H y v) (e : dGet st l y = some o) : ∃ ov, DGet H a v ov ∧ ORl2 ρ H o ov := by
  unfold dGet at e
  split at e
  · rename_i kvs hs
    obtain ⟨ws, hw, q⟩ := k.ob _ _ _ hs ha
    cases ek : keyOf y with
    | none => rw [ek] at e; cases e
    | some key => rw [ek] at e; cases e; rw [keyOf_ok ek r]; exact ⟨_, .inl ⟨ws, key, .inl hw, rfl, rfl⟩, q.val key⟩
  · rename_i kvs hs
    obtain ⟨ob, ws, hw, q⟩ := k.ob _ _ _ hs ha
    cases ek : keyOf y with
    | none => rw [ek] at e; cases e
    | some key => rw [ek] at e; cases e; rw [keyOf_ok ek r]; exact ⟨_, .inl ⟨ws, key, .inr ⟨ob, hw⟩, rfl, rfl⟩, q.val key⟩
  · rename_i kvs hs
    obtain ⟨ws, hw, q⟩ := k.ob _ _ _ hs ha
    cases r with
    | tup hb hz ql =>
      rename_i ds b us
      cases ek : keysOf ds with
      | none => simp [keyTOf, ek] at e
      | some ks =>
        simp only [keyTOf, ek, Option.map_some, Option.some.injEq] at e
        subst e
        exact ⟨_, .inr ⟨ws, ks, b, .inl hw, rfl, by rw [hb, keysOf_ok ek ql], rfl⟩, q.val ks⟩
    | _ => simp [keyTOf] at e
  · rename_i kvs hs
    obtain ⟨ob, ws, hw, q⟩ := k.ob _ _ _ hs ha
    cases r with
    | tup hb hz ql =>
      rename_i ds b us
      cases ek : keysOf ds with
      | none => simp [keyTOf, ek] at e
      | some ks =>
        simp only [keyTOf, ek, Option.map_some, Option.some.injEq] at e
        subst e
        exact ⟨_, .inr ⟨ws, ks, b, .inr ⟨ob, hw⟩, rfl, by rw [hb, keysOf_ok ek ql], rfl⟩, q.val ks⟩
    | _ => simp [keyTOf] at e
  · cases e
/-- the store behind d[y] = v -/
def dPut (st : Store) (l : Nat) (y v : D) : Option Store := match st[l]? with
  | some (.dK kvs) => if kvs.length < sizeLine then (keyOf y).map fun k => st.set l (.dK (putD kvs k v)) else none
  | some (.dT kvs) => if kvs.length < sizeLine then (keyTOf y).map fun k => st.set l (.dT (putD kvs k v)) else none
  | _ => none
theorem dPut_ok {K : PySem.W.Frag} {ρ : List Addr} {st st' : Store} {H : Hp} (k : Ok K ρ st H) {l : Nat} {a : Addr} {y d : D} {v u : V} (ha : ρ[l]? = some a) (r : Rl ρ H y v) (rd : Rl ρ H d u) (e : dPut st l y d = some st') : ∃ H', DPut H a v u H' ∧ Ok K ρ st' H' ∧ Ext ρ H ρ H' := by
  unfold dPut at e
  split at e
  · rename_i kvs hs
    obtain ⟨ws, hw, q⟩ := k.ob _ _ _ hs ha
    split at e
    · rename_i hz
      have x : ∀ o, Ext ρ H ρ (upd H a o) := fun o => Ext.wr hw fun _ z => nomatch z
      cases ek : keyOf y with
      | none => rw [ek] at e; cases e
      | some key =>
        rw [ek] at e; cases e
        rw [keyOf_ok ek r]
        exact ⟨_, .inl ⟨ws, key, hw, rfl, by rw [← q.length]; exact hz, rfl⟩, k.set (mo := .dK (putD kvs key d)) hs ha ⟨_, upd_same, (q.put rd).mono (x _)⟩, x _⟩
    · cases e
  · rename_i kvs hs
    obtain ⟨ws, hw, q⟩ := k.ob _ _ _ hs ha
    split at e
    · rename_i hz
      have x : ∀ o, Ext ρ H ρ (upd H a o) := fun o => Ext.wr hw fun _ z => nomatch z
      cases r with
      | tup hb hz' ql =>
        rename_i ds b us
        cases ek : keysOf ds with
        | none => simp [keyTOf, ek] at e
        | some ks =>
          simp only [keyTOf, ek, Option.map_some, Option.some.injEq] at e
          subst e
          exact ⟨_, .inr ⟨ws, ks, b, hw, rfl, by rw [hb, keysOf_ok ek ql], by rw [← q.length]; exact hz, rfl⟩, k.set (mo := .dT (putD kvs ks d)) hs ha ⟨_, upd_same, (q.put rd).mono (x _)⟩, x _⟩
      | _ => simp [keyTOf] at e
    · cases e
  · cases e

/-! ### subscripts -/
@[simp] def ixV : F2 := fun x y st => match x, y with
  | .tup ds, .int i => match atI ds i with
    | some d => .ok d st
    | none => .stuck
  | .str z, .int i => if z.length ≤ sizeLine then (match atI z.cps.toList i with
    | some c => .ok (.str ⟨#[c]⟩) st
    | none => .stuck) else .stuck
  | .loc l, y => match st[l]?, y with
    | some (.lst ds), .int i => (match atI ds i with
      | some d => .ok d st
      | none => .stuck)
    | some (.rdl ds), .int i => (match atI ds i with
      | some d => .ok d st
      | none => .stuck)
    | _, y => (match dGet st l y with
      | some (some d) => .ok d st
      | _ => .stuck)
  | _, _ => .stuck
abbrev ixM := bin2 ixV
theorem atI_rl {ρ : List Addr} {H : Hp} {ds : List D} {vs : List V} (q : RlL ρ H ds vs) {i : Int} {d : D} (h : atI ds i = some d) : ∃ v, atI vs i = some v ∧ Rl ρ H d v := by
  unfold atI at h ⊢
  rw [← q.length]
  cases e : ixN ds.length i with
  | none => rw [e] at h; cases h
  | some j => rw [e] at h; exact q.get' h
section
variable {X : Cx} {W : WX} {a b : Expr} {ma mb : EM} {pos : Pos}
theorem g_ix (hu : X.A.units + 1 < cLine) (ha : GE X W a ma) (hb : GE X W b mb) (hs : PlainIx b := by exact fun _ _ => rfl) : GE X W (.Subscript a b pos) (ixM ma mb) := by
  refine PEw (PE.or (pe_ix ix_seq ha hb hs) (pe_dget hu ha hb hs)) fun σ H Q ⟨ρ, δ, st, k, s, h⟩ => ?_
  -- the two values are known ahead
  unfold ixM bin2 at h
  cases h1 : ma δ st with
  | stuck => rw [h1] at h; exact h.elim
  | err C fs st1 => rw [h1] at h; exact .inl (tG_err k s h1 h)
  | ok x st1 =>
    rw [h1] at h
    simp only [Res.bind_ok] at h
    cases h2 : mb δ st1 with
    | stuck => rw [h2] at h; exact h.elim
    | err C fs st2 =>
      rw [h2] at h
      exact .inl (tG_ok k s h1 fun ρ' H' v x' k' r => tG_err k' (s.mono x') h2 (h.ext x'))
    | ok y st2 =>
      rw [h2] at h
      simp only [Res.bind_ok] at h
      have both : ∀ {r : Res D} (h : Post X.K ρ H (fun c d => W c d σ) Rl Q r) {Q' : V → V → Hp → Prop}, (∀ ρ2 H2 v u, Ok X.K ρ2 st2 H2 → Rl ρ2 H2 x v → Rl ρ2 H2 y u → Post X.K ρ2 H2 (fun c d => W c d σ) Rl Q r → Q' v u H2) →
          tG X.K W ma σ H fun v H1 => tG X.K W mb σ H1 fun u H2 => Q' v u H2 := fun {r} h {Q'} hq =>
        tG_ok k s h1 fun ρ' H' v x' k' r => tG_ok k' (s.mono x') h2 fun ρ2 H2 u x2 k2 r2 => hq ρ2 H2 v u k2 (r.mono x2) r2 (h.ext (x'.trans x2))
      unfold ixV at h
      split at h
      · rename_i ds i
        refine .inl (both h fun ρ2 H2 v u k2 r1 r2 hp => ?_)
        split at hp
        · rename_i d hd
          cases r1 with
          | tup ha hz q =>
            cases r2
            obtain ⟨w, hw, rw'⟩ := atI_rl q hd
            exact .inr (.inl ⟨_, _, _, _, rfl, rfl, SqT.of ha, hw, hp.now k2 rw'⟩)
        · exact hp.elim
      · rename_i z i
        refine .inl (both h fun ρ2 H2 v u k2 r1 r2 hp => ?_)
        split at hp
        · rename_i hz
          split at hp
          · rename_i c hc
            cases r1
            cases r2
            exact .inr (.inr ⟨_, _, _, rfl, rfl, hz, hc, hp.now k2 .str⟩)
          · exact hp.elim
        · exact hp.elim
      · rename_i l
        split at h
        · rename_i ds i hs
          refine .inl (both h fun ρ2 H2 v u k2 r1 r2 hp => ?_)
          split at hp
          · rename_i d hd
            cases r1 with
            | loc hr =>
              cases r2
              obtain ⟨vs, hv, hz, q⟩ := k2.lstAt hr hs
              obtain ⟨w, hw, rw'⟩ := atI_rl q hd
              exact .inl ⟨_, _, _, _, rfl, rfl, SqL.of hv, hw, hp.now k2 rw'⟩
          · exact hp.elim
        · rename_i ds i hs
          refine .inl (both h fun ρ2 H2 v u k2 r1 r2 hp => ?_)
          split at hp
          · rename_i d hd
            cases r1 with
            | loc hr =>
              cases r2
              obtain ⟨o, vs, hv, hz, q⟩ := k2.ob _ _ _ hs hr
              obtain ⟨w, hw, rw'⟩ := atI_rl q hd
              exact .inl ⟨_, _, _, _, rfl, rfl, .inl (.inr ⟨o, hv⟩), hw, hp.now k2 rw'⟩
          · exact hp.elim
        · refine .inr (both h fun ρ2 H2 v u k2 r1 r2 hp => ?_)
          split at hp
          · rename_i d hd
            cases r1 with
            | loc hr =>
              obtain ⟨ov, g, ro⟩ := dGet_ok k2 hr r2 hd
              cases ov with
              | none => exact ro.elim
              | some w => exact ⟨_, w, rfl, g, hp.now k2 ro⟩
          · exact hp.elim
      · exact h.elim
end

/-! ### slices -/
abbrev OM := En → Store → Res (Option Int)
@[simp] def noO : OM := fun _ st => .ok none st
@[simp] def someO (m : EM) : OM := fun δ st => (m δ st).bind fun d st => match d with
  | .int i => .ok (some i) st
  | _ => .stuck
def tGO (K : PySem.W.Frag) (W : WX) (m : OM) : TO := fun σ H Q => ∃ ρ δ st, Ok K ρ st H ∧ SRl ρ H δ σ ∧ Post K ρ H (fun c d => W c d σ) (fun _ _ (a b : Option Int) => a = b) Q (m δ st)
abbrev GO (X : Cx) (W : WX) (e : Option Expr) (m : OM) : Prop := PO X e (tGO X.K W m)
theorem POw {X : Cx} {e : Option Expr} {t t' : TO} (h : PO X e t) (w : ∀ σ H Q, t' σ H Q → t σ H Q) : PO X e t' := ⟨fun pins s σ H Q I q => h.run pins s σ H Q I (w _ _ _ q)⟩
def cutD (xs : List D) (lo hi : Option Int) : List D := (xs.drop (HT.sIx xs.length 0 lo)).take (HT.sIx xs.length xs.length hi - HT.sIx xs.length 0 lo)
theorem cutD_rl {ρ : List Addr} {H : Hp} {ds : List D} {vs : List V} (q : RlL ρ H ds vs) (lo hi : Option Int) : RlL ρ H (cutD ds lo hi) (cutV vs lo hi) := by
  unfold cutD cutV
  rw [q.length]
  exact (q.drop _).take _
theorem cutD_all {ds : List D} {lo hi : Option Int} (h : HT.sIx ds.length 0 lo = 0 ∧ HT.sIx ds.length ds.length hi = ds.length) : cutD ds lo hi = ds := by
  unfold cutD
  rw [h.1, h.2]
  simp
def sliceM (m : EM) (lo hi : OM) : EM := fun δ st => (m δ st).bind fun x st => (lo δ st).bind fun l st => (hi δ st).bind fun u st => match x with
  | .tup ds => .ok (.tup (cutD ds l u)) st
  | .loc n => match st[n]? with
    | some (.lst ds) => .ok (.loc st.length) (st ++ [.lst (cutD ds l u)])
    | some (.rdl ds) => .ok (.loc st.length) (st ++ [.lst (cutD ds l u)])
    | _ => .stuck
  | _ => .stuck
section
variable {X : Cx} {W : WX} {e : Expr} {lo hi : Option Expr} {m : EM} {l u : OM} {pos p2 : Pos}
theorem go_none : GO X W none noO := POw po_none fun σ H Q ⟨ρ, δ, st, k, s, h⟩ => h.now k rfl
theorem go_some (h : GE X W e m) : GO X W (some e) (someO m) := POw (po_some h) fun σ H Q ⟨ρ, δ, st, k, s, h⟩ => by
  refine ⟨ρ, δ, st, k, s, (Post.bind (rel := Rl) h).imp fun v H1 ⟨ρ1, x, st1, e1, k1, r1, h1⟩ => ?_⟩
  split at h1
  · cases r1; exact ⟨_, rfl, h1.now k1 rfl⟩
  · exact h1.elim
theorem g_slice (he : GE X W e m) (hl : GO X W lo l) (hu : GO X W hi u) : GE X W (.Subscript e (.Slice lo hi none p2) pos) (sliceM m l u) := by
  refine PEw (pe_slice (sl_list.or sl_tupA) he hl hu) fun σ H Q ⟨ρ, δ, st, k, s, h⟩ => ?_
  refine ⟨ρ, δ, st, k, s, (Post.bind (rel := Rl) h).imp fun v H1 ⟨ρ1, x, st1, e1, k1, r1, h1⟩ => ?_⟩
  refine ⟨ρ1, δ, st1, k1, s.mono e1, (Post.bind (rel := fun _ _ (a b : Option Int) => a = b) h1).imp fun lv H2 ⟨ρ2, l', st2, e2, k2, r2, h2⟩ => ?_⟩
  subst r2
  refine ⟨ρ2, δ, st2, k2, s.mono (e1.trans e2), (Post.bind (rel := fun _ _ (a b : Option Int) => a = b) h2).imp fun uv H3 ⟨ρ3, u', st3, e3, k3, r3, h3⟩ => ?_⟩
  subst r3
  have r1' := r1.mono (e2.trans e3)
  split at h3
  · cases r1' with
    | tup ha hz q =>
      have hl := q.length
      refine .inr ⟨_, _, rfl, SqT.of ha, fun w => ?_, fun _ => Post.newTup k3 (cutD_rl q _ _) (Nat.le_trans (cutV_length _ _ _) hz) h3⟩
      rw [cutD_all (by rw [hl]; exact w)] at h3
      exact h3.now k3 (.tup ha hz q)
  · split at h3
    · rename_i hs
      cases r1' with
      | loc hr =>
        obtain ⟨vs, hv, hz, q⟩ := k3.lstAt hr hs
        exact .inl ⟨_, _, rfl, SqL.of hv, Post.newLst k3 (cutD_rl q _ _) (Nat.le_trans (cutV_length _ _ _) hz) h3⟩
    · rename_i hs
      cases r1' with
      | loc hr =>
        obtain ⟨o, vs, hv, hz, q⟩ := k3.ob _ _ _ hs hr
        exact .inl ⟨_, _, rfl, .inl (.inr ⟨o, hv⟩), Post.newLst k3 (cutD_rl q _ _) (Nat.le_trans (cutV_length _ _ _) hz) h3⟩
    · exact h3.elim
  · exact h3.elim
end

/-! ### dicts as expressions -/
@[simp] def newKM : EM := fun _ st => .ok (.loc st.length) (st ++ [.dK []])
@[simp] def newTM : EM := fun _ st => .ok (.loc st.length) (st ++ [.dT []])
/-- y in d (a dict) -/
def dinV : F2 := fun y x st => match x with
  | .loc l => match dGet st l y with
    | some o => .ok (.bl o.isSome) st
    | none => .stuck
  | _ => .stuck
def dninV : F2 := fun y x st => match x with
  | .loc l => match dGet st l y with
    | some o => .ok (.bl (!o.isSome)) st
    | none => .stuck
  | _ => .stuck
abbrev dinM := bin2 dinV
abbrev dninM := bin2 dninV
theorem ORl2.same {ρ : List Addr} {H : Hp} {o : Option D} {ov : Option V} (r : ORl2 ρ H o ov) : o.isSome = ov.isSome := by
  cases o <;> cases ov <;> first | rfl | exact r.elim
/-- target d[y] or xs[i] -/
@[simp] def subG (mo mi : EM) : TGM := fun d δ st => bindE (mo δ st) δ fun x st => bindE (mi δ st) δ fun y st => match x with
  | .loc l => match st[l]?, y with
    | some (.lst ds), .int i => (match ixN ds.length i with
      | some j => .ok .nx δ (st.set l (.lst (ds.set j d)))
      | none => .stuck)
    | _, y => (match dPut st l y d with
      | some st' => .ok .nx δ st'
      | none => .stuck)
  | _ => .stuck
section
variable {X : Cx} {W : WX} {a b e : Expr} {m ma mb : EM} {pos : Pos}
theorem g_newK : GE X W (.Dict [] [] pos) newKM := PEw pe_dnewK fun σ H Q ⟨ρ, δ, st, k, s, h⟩ => Post.newObj (mo := .dK []) k (fun p hp => ⟨[], upd_same, .nil⟩) h
theorem g_newT : GE X W (.Dict [] [] pos) newTM := PEw pe_dnewT fun σ H Q ⟨ρ, δ, st, k, s, h⟩ => Post.newObj (mo := .dT []) k (fun p hp => ⟨[], upd_same, .nil⟩) h
theorem gt_din (hu : X.A.units + 1 < cLine) (ha : GE X W a ma) (hb : GE X W b mb) (h1 : behindInMarks .In b = false := by rfl) : GT X W (.Compare a [.In] [b] pos) (asB (dinM ma mb)) := by
  refine PTw (pt_cmp (pc_din hu ha hb) h1) fun σ H Q ⟨ρ, δ, st, k, s, h⟩ => ?_
  have h' := Post.bind (rel := Rl) h
  refine ⟨ρ, δ, st, k, s, (Post.bind (rel := Rl) h').imp fun v H1 ⟨ρ1, y, st1, e1, k1, r1, h1⟩ => ?_⟩
  refine ⟨ρ1, δ, st1, k1, s.mono e1, (Post.bind (rel := Rl) h1).imp fun u H2 ⟨ρ2, x, st2, e2, k2, r2, h2⟩ => ?_⟩
  unfold dinV at h2
  split at h2
  · split at h2
    · rename_i o hd
      cases r2 with
      | loc hr =>
        obtain ⟨ov, g, ro⟩ := dGet_ok k2 hr (r1.mono e2) hd
        obtain ⟨ρ3, z, st3, e3, k3, r3, h3⟩ := h2.now k2 .bl
        refine ⟨_, ov, rfl, g, _, rfl, ?_⟩
        rw [← ro.same]
        cases r3
        exact h3.now k3 rfl
    · exact h2.elim
  · exact h2.elim
theorem gt_dnin (hu : X.A.units + 1 < cLine) (ha : GE X W a ma) (hb : GE X W b mb) (h1 : behindInMarks .NotIn b = false := by rfl) : GT X W (.Compare a [.NotIn] [b] pos) (asB (dninM ma mb)) := by
  refine PTw (pt_cmp (pc_dnotin hu ha hb) h1) fun σ H Q ⟨ρ, δ, st, k, s, h⟩ => ?_
  have h' := Post.bind (rel := Rl) h
  refine ⟨ρ, δ, st, k, s, (Post.bind (rel := Rl) h').imp fun v H1 ⟨ρ1, y, st1, e1, k1, r1, h1⟩ => ?_⟩
  refine ⟨ρ1, δ, st1, k1, s.mono e1, (Post.bind (rel := Rl) h1).imp fun u H2 ⟨ρ2, x, st2, e2, k2, r2, h2⟩ => ?_⟩
  unfold dninV at h2
  split at h2
  · split at h2
    · rename_i o hd
      cases r2 with
      | loc hr =>
        obtain ⟨ov, g, ro⟩ := dGet_ok k2 hr (r1.mono e2) hd
        obtain ⟨ρ3, z, st3, e3, k3, r3, h3⟩ := h2.now k2 .bl
        refine ⟨_, ov, rfl, g, _, rfl, ?_⟩
        rw [← ro.same]
        cases r3
        exact h3.now k3 rfl
    · exact h2.elim
  · exact h2.elim
theorem g_din (hu : X.A.units + 1 < cLine) (ha : GE X W a ma) (hb : GE X W b mb) (h1 : behindInMarks .In b = false := by rfl) : GE X W (.Compare a [.In] [b] pos) (dinM ma mb) := by
  refine PEw (pe_cmp (pc_din hu ha hb) h1) fun σ H Q ⟨ρ, δ, st, k, s, h⟩ => ?_
  refine ⟨ρ, δ, st, k, s, (Post.bind (rel := Rl) h).imp fun v H1 ⟨ρ1, y, st1, e1, k1, r1, h1⟩ => ?_⟩
  refine ⟨ρ1, δ, st1, k1, s.mono e1, (Post.bind (rel := Rl) h1).imp fun u H2 ⟨ρ2, x, st2, e2, k2, r2, h2⟩ => ?_⟩
  unfold dinV at h2
  split at h2
  · split at h2
    · rename_i o hd
      cases r2 with
      | loc hr =>
        obtain ⟨ov, g, ro⟩ := dGet_ok k2 hr (r1.mono e2) hd
        refine ⟨_, ov, rfl, g, ?_⟩
        rw [← ro.same]
        exact h2.now k2 .bl
    · exact h2.elim
  · exact h2.elim
/-- the statement d[y] = v, xs[i] = v -/
@[simp] def putS (mv mo mi : EM) : SM := fun δ st => bindE (mv δ st) δ fun d st => subG mo mi d δ st
theorem gs_put {value : Expr} {mv : EM} {pos' : Pos} (hu : X.A.units + 1 < cLine) (hv : GE X W value mv) (ho : GE X W a ma) (hi : GE X W b mb)
    (hsd : swapsWith value (some (.Subscript a b pos')) pos.line X.env = pure false := by rfl) (hs : swapsWithSole [.Subscript a b pos'] value pos.line X.env = pure false := by rfl) (hw : swappedStores [.Subscript a b pos'] value X.env = pure none := by rfl)
    (h1 : (assignEach [.Subscript a b pos'] X.env).map (·.2) = [assign (.Subscript a b pos') X.env] := by rfl)
    (hsub : ∀ v, assign (.Subscript a b pos') X.env v = (do
      let ov ← holding [v] (eval a X.env)
      let iv ← holding [v, ov] (eval b X.env)
      standAt pos'
      holding [v, ov, iv] (setItem ov iv v)
      release [v, ov, iv] []) := by intro _; rfl) : GS X W (.Assign [.Subscript a b pos'] value pos) (putS mv ma mb) := by
  have A1 := ps_asg (pos := pos) hv (pg_sub (pos := pos') ho hi set_list hsub) hs hw h1
  have A2 := ps_dput (pos := pos) (pos' := pos') hu ho hi hv hsd
  have : PS X (.Assign [.Subscript a b pos'] value pos) (fun Dn σ H => tAsg (tG X.K W mv) (gSub (tG X.K W ma) (tG X.K W mb) rSetL) Dn σ H ∨ sDPut (tG X.K W ma) (tG X.K W mb) (tG X.K W mv) Dn σ H) := ⟨fun pins s σ H D I q => by
    rcases q with q | q
    · exact A1.run pins s σ H D I q
    · exact A2.run pins s σ H D I q⟩
  refine PSw this fun Dn σ H ⟨ρ, δ, st, k, s, h⟩ => ?_
  unfold putS at h
  cases h0 : mv δ st with
  | stuck => rw [h0] at h; exact h.elim
  | err C fs st1 => rw [h0] at h; exact .inl (tG_err k s h0 (PostS.bindE (rel := Rl) (f := fun _ _ => .stuck) (r := .err C fs st1) s h))
  | ok d st0 =>
    rw [h0] at h
    simp only [bindE_ok, subG] at h
    cases h1 : ma δ st0 with
    | stuck => rw [h1] at h; exact h.elim
    | err C fs st1 =>
      rw [h1] at h
      exact .inl (tG_ok k s h0 fun ρ' H' v x' k' r => tG_err k' (s.mono x') h1 (PostS.bindE (rel := Rl) (f := fun _ _ => .stuck) (r := .err C fs st1) (s.mono x') (h.ext x')))
    | ok x st1 =>
      rw [h1] at h
      simp only [bindE_ok] at h
      cases h2 : mb δ st1 with
      | stuck => rw [h2] at h; exact h.elim
      | err C fs st2 =>
        rw [h2] at h
        exact .inl (tG_ok k s h0 fun ρ0 H0 v0 x0 k0 r0 => tG_ok k0 (s.mono x0) h1 fun ρ' H' v x' k' r => tG_err k' (s.mono (x0.trans x')) h2 (PostS.bindE (rel := Rl) (f := fun _ _ => .stuck) (r := .err C fs st2) (s.mono (x0.trans x')) (h.ext (x0.trans x'))))
      | ok y st2 =>
        rw [h2] at h
        simp only [bindE_ok] at h
        have all : ∀ {Q' : V → V → V → Hp → Prop}, (∀ ρ2 H2 u v w, Ok X.K ρ2 st2 H2 → SRl ρ2 H2 δ σ → Rl ρ2 H2 d u → Rl ρ2 H2 x v → Rl ρ2 H2 y w → Ext ρ H ρ2 H2 → Q' u v w H2) →
            tG X.K W mv σ H fun u H0 => tG X.K W ma σ H0 fun v H1 => tG X.K W mb σ H1 fun w H2 => Q' u v w H2 := fun hq =>
          tG_ok k s h0 fun ρ0 H0 u x0 k0 r0 => tG_ok k0 (s.mono x0) h1 fun ρ1 H1 v x1 k1 r1 => tG_ok k1 (s.mono (x0.trans x1)) h2 fun ρ2 H2 w x2 k2 r2 =>
            hq ρ2 H2 u v w k2 (s.mono (x0.trans (x1.trans x2))) (r0.mono (x1.trans x2)) (r1.mono x2) r2 (x0.trans (x1.trans x2))
        split at h
        · split at h
          · rename_i ds i hs
            split at h
            · rename_i j hj
              refine .inl (all fun ρ2 H2 u v w k2 s2 r0 r1 r2 x2 => ?_)
              cases r1 with
              | loc hr =>
                cases r2
                obtain ⟨vs, hv, hz, q⟩ := k2.lstAt hr hs
                have wr : ∀ o, Ext ρ2 H2 ρ2 (upd H2 _ o) := fun o => Ext.wr hv fun _ z => nomatch z
                refine ⟨_, vs, i, j, rfl, rfl, hv, by rw [← q.length]; exact hj, ?_⟩
                refine h ρ2 σ _ (x2.trans (wr _)) (k2.set (mo := .lst (ds.set j d)) hs hr ⟨vs.set j u, upd_same, by simpa using hz, (RlL.set r0 j q).mono (wr _)⟩) (s2.mono (wr _))
            · exact h.elim
          · split at h
            · rename_i st' hd
              refine .inr (all fun ρ2 H2 u v w k2 s2 r0 r1 r2 x2 => ?_)
              cases r1 with
              | loc hr =>
                obtain ⟨H', hp, k', x'⟩ := dPut_ok k2 hr r2 r0 hd
                exact ⟨_, H', rfl, hp, h ρ2 σ H' (x2.trans x') k' (s2.mono x')⟩
            · exact h.elim
        · exact h.elim
/-- d.setdefault(k, v): ints and texts as keys -/
def setdM (mo mk mv : EM) : EM := fun δ st => (mo δ st).bind fun x st => match x with
  | .loc l => match st[l]? with
    | some (.dK _) => (mk δ st).bind fun y st => (mv δ st).bind fun d st => (match st[l]?, keyOf y with
      | some (.dK kvs), some k => if kvs.length < sizeLine then (match getK kvs k with
        | some v => .ok v st
        | none => .ok d (st.set l (.dK (putD kvs k d)))) else .stuck
      | _, _ => .stuck)
    | _ => .stuck
  | _ => .stuck
theorem g_setd {o f : Expr} {mo mk mv : EM} {apos cpos : Pos} (ho : GE X W o mo) (hk : GE X W e mk) (hv : GE X W f mv) (m : M2 X o "setdefault" apos e f cpos) : GE X W (.Call (.Attribute o "setdefault" apos) [e, f] [] cpos) (setdM mo mk mv) := by
  refine PEw (pe_dsetd ho hk hv m) fun σ H Q ⟨ρ, δ, st, k, s, h⟩ => ?_
  refine ⟨ρ, δ, st, k, s, (Post.bind (rel := Rl) h).imp fun x H1 ⟨ρ1, xd, st1, e1, k1, r1, h1⟩ => ?_⟩
  split at h1
  · split at h1
    · rename_i hs
      cases r1 with
      | loc hr =>
        obtain ⟨ws, hw, q⟩ := k1.ob _ _ _ hs hr
        refine ⟨_, rfl, .inl ⟨ws, .inl hw⟩, ρ1, δ, st1, k1, s.mono e1, (Post.bind (rel := Rl) h1).imp fun y H2 ⟨ρ2, yd, st2, e2, k2, r2, h2⟩ => ?_⟩
        refine ⟨ρ2, δ, st2, k2, s.mono (e1.trans e2), (Post.bind (rel := Rl) h2).imp fun z H3 ⟨ρ3, zd, st3, e3, k3, r3, h3⟩ => ?_⟩
        split at h3
        · rename_i kvs key hs3 hk3
          split at h3
          · rename_i hz
            have hr3 := e3.at (e2.at hr)
            obtain ⟨ws3, hw3, q3⟩ := k3.ob _ _ _ hs3 hr3
            have rv := q3.val key
            refine ⟨ws3, key, hw3, keyOf_ok hk3 (r2.mono e3), by rw [← q3.length]; exact hz, fun v hv => ?_, fun hn => ?_⟩
            · rw [hv] at rv
              cases hg : getK kvs key with
              | none => rw [hg] at rv; exact rv.elim
              | some d => rw [hg] at rv h3; exact h3.now k3 rv
            · rw [hn] at rv
              cases hg : getK kvs key with
              | some d => rw [hg] at rv; exact rv.elim
              | none =>
                rw [hg] at h3
                have wr : ∀ o, Ext ρ3 H3 ρ3 (upd H3 _ o) := fun o => Ext.wr hw3 fun _ z => nomatch z
                exact h3 ρ3 _ z (wr _) (k3.set (mo := .dK (putD kvs key zd)) hs3 hr3 ⟨_, upd_same, (q3.put r3).mono (wr _)⟩) (r3.mono (wr _))
          · exact h3.elim
        · exact h3.elim
    · exact h1.elim
  · exact h1.elim
end
end Fx
/-! Fx6: methods, built-ins, exceptions. -/
namespace Fx
open PySem PySem.Spec PyProof.Rows L2

/-! ### methods of lists -/
abbrev LM := Nat → List D → Store → Res D
@[simp] def lmM (f : LM) (mo : EM) (am : AM) : EM := fun δ st => (mo δ st).bind fun x st => match x with
  | .loc l => match st[l]? with
    | some (.lst _) => (am δ st).bind fun ds st => f l ds st
    | _ => .stuck
  | _ => .stuck
def LmG (K : PySem.W.Frag) (f : LM) (r : V → List V → Hp → VK → Prop) : Prop := ∀ (ρ : List Addr) (st : Store) (H : Hp) (l : Nat) (a : Addr) (ds : List D) (vs : List V) (Wx : WxK) (Q : VK), Ok K ρ st H → ρ[l]? = some a → RlL ρ H ds vs → Post K ρ H Wx Rl Q (f l ds st) → r (.ref a) vs H Q
section
variable {X : Cx} {W : WX} {o e : Expr} {es : List Expr} {mo : EM} {am : AM} {f : LM} {r : V → List V → Hp → VK → Prop} {name : Str} {id : String} {apos cpos : Pos}
theorem g_lm (slot : Slot "list" name id) (hty : typeOf (.builtin id) = pure (.type "method_descriptor")) (hm : MtR X id r) (hf : LmG X.K f r) (ho : GE X W o mo) (ha : GA X W (e :: es) am)
    (hbase : attributeBase o name X.env (eval o X.env) = eval o X.env := by rfl)
    (hfew : ((backTo cpos (starEach (e :: es) X.env)).all (fun x => !x.1) && (backToKw cpos (keywordEach [] X.env)).all (fun x => x.1.isSome)
      && decide ((e :: es).length + ([] : List Keyword).length + (if ([] : List Keyword).isEmpty then 0 else 1) < 30)) = true := by rfl)
    (hline : (apos.endLine == cpos.line) = true := by rfl) (hs : starEach (e :: es) X.env = (false, eval e X.env) :: starEach es X.env := by rfl) (hplain : (backTo cpos (starEach es X.env)).any (·.1) = false := by rfl) :
    GE X W (.Call (.Attribute o name apos) (e :: es) [] cpos) (lmM f mo am) := by
  refine PEw (pe_bm PySem.F.plainAttrs_list slot hty hm ho ha hbase hfew hline hs hplain) fun σ H Q ⟨ρ, δ, st, k, s, h⟩ => ?_
  refine ⟨ρ, δ, st, k, s, (Post.bind (rel := Rl) h).imp fun v H1 ⟨ρ1, x, st1, e1, k1, r1, h1⟩ => ?_⟩
  split at h1
  · split at h1
    · rename_i hs1
      cases r1 with
      | loc hr =>
        obtain ⟨vs, hv, hz, q⟩ := k1.lstAt hr hs1
        refine ⟨.inl ⟨rfl, vs, SqL.of hv⟩, ρ1, δ, st1, k1, s.mono e1, (Post.bind (rel := RlL) h1).imp fun us H2 ⟨ρ2, ds, st2, e2, k2, r2, h2⟩ => ?_⟩
        exact hf ρ2 st2 H2 _ _ ds us _ Q k2 (e2.at hr) r2 h2
    · exact h1.elim
  · exact h1.elim
theorem g_lm0 (slot : Slot "list" name id) (hty : typeOf (.builtin id) = pure (.type "method_descriptor")) (hm : MtR X id r) (hf : LmG X.K f r) (ho : GE X W o mo)
    (hbase : attributeBase o name X.env (eval o X.env) = eval o X.env := by rfl) (hline : (apos.endLine == cpos.line) = true := by rfl) :
    GE X W (.Call (.Attribute o name apos) [] [] cpos) (lmM f mo nilM) := by
  refine PEw (pe_bm0 PySem.F.plainAttrs_list slot hty hm ho hbase hline) fun σ H Q ⟨ρ, δ, st, k, s, h⟩ => ?_
  refine ⟨ρ, δ, st, k, s, (Post.bind (rel := Rl) h).imp fun v H1 ⟨ρ1, x, st1, e1, k1, r1, h1⟩ => ?_⟩
  split at h1
  · split at h1
    · rename_i hs1
      cases r1 with
      | loc hr =>
        obtain ⟨vs, hv, hz, q⟩ := k1.lstAt hr hs1
        exact ⟨.inl ⟨rfl, vs, SqL.of hv⟩, hf ρ1 st1 H1 _ _ [] [] _ Q k1 hr .nil h1⟩
    · exact h1.elim
  · exact h1.elim
def appV : LM := fun l ds st => match ds, st[l]? with
  | [d], some (.lst xs) => if xs.length < sizeLine then .ok .non (st.set l (.lst (xs ++ [d]))) else .stuck
  | _, _ => .stuck
theorem appV_ok {K : PySem.W.Frag} : LmG K appV rAppend := by
  intro ρ st H l a ds vs Wx Q k hr q h
  unfold appV at h
  split at h
  · rename_i d xs hs
    split at h
    · rename_i hz
      cases q with
      | cons r1 q1 =>
        cases q1
        obtain ⟨us, hv, hz', q2⟩ := k.lstAt hr hs
        have wr : ∀ o, Ext ρ H ρ (upd H a o) := fun o => Ext.wr hv fun _ z => nomatch z
        have hl := q2.length
        exact ⟨a, us, _, rfl, rfl, hv, by omega, h ρ _ _ (wr _) (k.set (mo := .lst (xs ++ [d])) hs hr ⟨us ++ [_], upd_same, by rw [List.length_append]; simp; omega, (q2.append (.cons r1 .nil)).mono (wr _)⟩) .non⟩
    · exact h.elim
  · exact h.elim
theorem g_app (ho : GE X W o mo) (ha : GA X W [e] am) (hbase : attributeBase o "append" X.env (eval o X.env) = eval o X.env := by rfl)
    (hfew : ((backTo cpos (starEach [e] X.env)).all (fun x => !x.1) && (backToKw cpos (keywordEach [] X.env)).all (fun x => x.1.isSome)
      && decide ([e].length + ([] : List Keyword).length + (if ([] : List Keyword).isEmpty then 0 else 1) < 30)) = true := by rfl)
    (hline : (apos.endLine == cpos.line) = true := by rfl) (hs : starEach [e] X.env = (false, eval e X.env) :: starEach [] X.env := by rfl) (hplain : (backTo cpos (starEach [] X.env)).any (·.1) = false := by rfl) :
    GE X W (.Call (.Attribute o "append" apos) [e] [] cpos) (lmM appV mo am) := g_lm PySem.F.slot_list_append PySem.F.type_list_append mt_append appV_ok ho ha hbase hfew hline hs hplain
def extV : LM := fun l ds st => match ds with
  | [.loc b] => match st[l]?, st[b]? with
    | some (.lst xs), some (.lst ys) => if xs.length + ys.length ≤ sizeLine then .ok .non (st.set l (.lst (xs ++ ys))) else .stuck
    | _, _ => .stuck
  | _ => .stuck
theorem extV_ok {K : PySem.W.Frag} : LmG K extV rExtend := by
  intro ρ st H l a ds vs Wx Q k hr q h
  unfold extV at h
  split at h
  · split at h
    · rename_i xs ys hs hs'
      split at h
      · rename_i hz
        cases q with
        | cons r1 q1 =>
          cases q1
          cases r1 with
          | loc hb =>
            obtain ⟨us, hv, hz', q2⟩ := k.lstAt hr hs
            obtain ⟨us', hv', hz2, q3⟩ := k.lstAt hb hs'
            have wr : ∀ o, Ext ρ H ρ (upd H a o) := fun o => Ext.wr hv fun _ z => nomatch z
            have hl := q2.length
            have hl' := q3.length
            exact ⟨a, _, us, us', rfl, rfl, hv, hv', by omega, h ρ _ _ (wr _) (k.set (mo := .lst (xs ++ ys)) hs hr ⟨us ++ us', upd_same, by rw [List.length_append]; omega, (q2.append q3).mono (wr _)⟩) .non⟩
      · exact h.elim
    · exact h.elim
  · exact h.elim
theorem g_ext (ho : GE X W o mo) (ha : GA X W [e] am) (hbase : attributeBase o "extend" X.env (eval o X.env) = eval o X.env := by rfl)
    (hfew : ((backTo cpos (starEach [e] X.env)).all (fun x => !x.1) && (backToKw cpos (keywordEach [] X.env)).all (fun x => x.1.isSome)
      && decide ([e].length + ([] : List Keyword).length + (if ([] : List Keyword).isEmpty then 0 else 1) < 30)) = true := by rfl)
    (hline : (apos.endLine == cpos.line) = true := by rfl) (hs : starEach [e] X.env = (false, eval e X.env) :: starEach [] X.env := by rfl) (hplain : (backTo cpos (starEach [] X.env)).any (·.1) = false := by rfl) :
    GE X W (.Call (.Attribute o "extend" apos) [e] [] cpos) (lmM extV mo am) := g_lm PySem.F.slot_list_extend PySem.F.type_list_extend mt_extend extV_ok ho ha hbase hfew hline hs hplain
def popV : LM := fun l ds st => match ds, st[l]? with
  | [], some (.lst xs) => match xs[xs.length - 1]? with
    | some d => .ok d (st.set l (.lst xs.dropLast))
    | none => .stuck
  | _, _ => .stuck
theorem RlL.dropLast {ρ H} {ds : List D} {vs : List V} (q : RlL ρ H ds vs) : RlL ρ H ds.dropLast vs.dropLast := by
  rw [List.dropLast_eq_take, List.dropLast_eq_take, q.length]
  exact q.take _
theorem popV_ok {K : PySem.W.Frag} : LmG K popV rPop := by
  intro ρ st H l a ds vs Wx Q k hr q h
  unfold popV at h
  split at h
  · rename_i xs hs
    split at h
    · rename_i d hd
      cases q
      obtain ⟨us, hv, hz', q2⟩ := k.lstAt hr hs
      obtain ⟨v, h1, r⟩ := q2.get' hd
      have wr : ∀ o, Ext ρ H ρ (upd H a o) := fun o => Ext.wr hv fun _ z => nomatch z
      have hl := q2.length
      exact ⟨a, us, v, rfl, rfl, hv, by rw [← hl]; exact h1, h ρ _ _ (wr _) (k.set (mo := .lst xs.dropLast) hs hr ⟨us.dropLast, upd_same, by rw [List.length_dropLast]; omega, q2.dropLast.mono (wr _)⟩) (r.mono (wr _))⟩
    · exact h.elim
  · exact h.elim
theorem g_pop (ho : GE X W o mo) (hbase : attributeBase o "pop" X.env (eval o X.env) = eval o X.env := by rfl) (hline : (apos.endLine == cpos.line) = true := by rfl) :
    GE X W (.Call (.Attribute o "pop" apos) [] [] cpos) (lmM popV mo nilM) := g_lm0 PySem.F.slot_list_pop PySem.F.type_list_pop mt_pop popV_ok ho hbase hline
end

/-! ### built-ins by values -/
abbrev CM := List D → Store → Res D
@[simp] def blM (f : CM) (am : AM) : EM := fun δ st => (am δ st).bind fun ds st => f ds st
def CallG (K : PySem.W.Frag) (f : CM) (r : List V → Hp → VK → Prop) : Prop := ∀ (ρ : List Addr) (st : Store) (H : Hp) (ds : List D) (vs : List V) (Wx : WxK) (Q : VK), Ok K ρ st H → RlL ρ H ds vs → Post K ρ H Wx Rl Q (f ds st) → r vs H Q
theorem CallR.or {X : Cx} {f : Value} {r r' : List V → Hp → VK → Prop} (h : CallR X f r) (h' : CallR X f r') : CallR X f (fun vs H Q => r vs H Q ∨ r' vs H Q) := by
  intro pins s σ H xs us Q I rv q
  rcases q with q | q
  · exact h pins s σ H xs us Q I rv q
  · exact h' pins s σ H xs us Q I rv q
section
variable {X : Cx} {W : WX} {e : Expr} {es : List Expr} {am : AM} {f : CM} {r : List V → Hp → VK → Prop} {x : Str} {id T : String} {p pos : Pos}
theorem g_callB (hc : CallR X (.builtin id) r) (hf : CallG X.K f r) (hg : Gl X x) (hm : X.mg x = none) (hv : bootBuiltins x = some (.builtin id)) (ha : GA X W (e :: es) am) (hn : x ≠ "__name__" := by decide) (hdb : (x == ("__debug__" : Str)) = false := by decide)
    (he : starEach (e :: es) X.env = (false, eval e X.env) :: starEach es X.env := by rfl) (hpl : (backTo pos (starEach es X.env)).any (·.1) = false := by rfl) : GE X W (.Call (.Name x p) (e :: es) [] pos) (blM f am) := by
  refine PEw (pe_callB hc hg hm hv ha hn hdb he hpl) fun σ H Q ⟨ρ, δ, st, k, s, h⟩ => ?_
  exact ⟨ρ, δ, st, k, s, (Post.bind (rel := RlL) h).imp fun vs H1 ⟨ρ1, ds, st1, e1, k1, r1, h1⟩ => hf ρ1 st1 H1 ds vs _ Q k1 r1 h1⟩
theorem g_callT (hc : CallR X (.type T) r) (hf : CallG X.K f r) (hg : Gl X x) (hm : X.mg x = none) (hv : bootBuiltins x = some (.type T)) (ha : GA X W (e :: es) am) (hn : x ≠ "__name__" := by decide) (hdb : (x == ("__debug__" : Str)) = false := by decide)
    (he : starEach (e :: es) X.env = (false, eval e X.env) :: starEach es X.env := by rfl) (hpl : (backTo pos (starEach es X.env)).any (·.1) = false := by rfl) : GE X W (.Call (.Name x p) (e :: es) [] pos) (blM f am) := by
  refine PEw (pe_callTy hc hg hm hv ha hn hdb he hpl) fun σ H Q ⟨ρ, δ, st, k, s, h⟩ => ?_
  exact ⟨ρ, δ, st, k, s, (Post.bind (rel := RlL) h).imp fun vs H1 ⟨ρ1, ds, st1, e1, k1, r1, h1⟩ => hf ρ1 st1 H1 ds vs _ Q k1 r1 h1⟩
end
/-! len -/
theorem len_body_dT {X : Cx} {A : Around} {E : Value → Shared → Prop} {s : Shared} {d : Addr} {es : Array DictEntry} {ep : Nat} {Q : Value → Shared → Prop} (hd : (d == sysModules) = false) (hm : s.heap.DictRaw d es ep) (hfit : (es.size : Int) < 2 ^ 63)
    (h : Q (.int es.size (s.toks + 1)) { s with toks := s.toks + 1 + 1 }) : wpAny (model X.prog X.w) A (PySem.Builtin.«len» ⟨[.ref d], []⟩) (fun fin s' => ∃ r, fin = .done (.ret r) ∧ Q r s') E s := by
  have hT : s.TypeIs (.ref d) "dict" := hm.typeIs
  unfold PySem.Builtin.«len»
  refine wpAny_bind (m := oneArg "len" _) (wpAny_pure ?_)
  refine wpAny_bind (m := callSpecial? (.ref d) (Str.ofString "__len__")) (wpAny_callSpecial?_slot (name := Str.ofString "__len__") hT PySem.F.slot_dict_len (call_len_raw hd hm ?_))
  refine wpAny_bind (wpAny_holding (wpAny_pure ?_))
  refine wpAny_bind (wpAny_letGo ?_)
  show wpAny _ _ (if ((es.size : Nat) : Int) < 0 then _ else _) _ _ _
  rw [if_neg (by omega)]
  show wpAny _ _ (if ((es.size : Nat) : Int) ≥ 2 ^ 63 then _ else _) _ _ _
  rw [if_neg (by omega)]
  exact wpAny_bind (wpAny_mkInt (wpAny_pure ⟨_, rfl, h⟩))
theorem call_lenDT {X : Cx} : CallR X (.builtin "len") (fun xs H Q => ∃ a kvs, xs = [V.ref a] ∧ H a = some (.dT kvs) ∧ Q (.int kvs.length) H) := by
  intro pins s σ H xs us Q I r h
  obtain ⟨a, kvs, rfl, ha, q⟩ := h
  obtain ⟨u, rfl, ru⟩ := vals1 r
  cases ru
  obtain ⟨z, hd, ks, pr, o, es, ep, ho, hx, hdt, he, hn⟩ := (show ObjOk X.prog X.w H s.heap a (.dT kvs) from I.hok a _ ha)
  have l1 : es.size = ks.length := size_of_entries he
  have l2 : kvs.length = ks.length := Paired.length pr
  rw [sizeLine_eq] at z
  refine Calls.call_function_entry kind_len plain_len entry_len (args_len1 _) (len_body_dT (X := X) hd ⟨o, ho, hx, hdt⟩ (by omega) ⟨.int kvs.length, H, I.tok _, ⟨_, by rw [l2, ← l1]⟩, q⟩)
@[simp] def lenV : CM := fun ds st => match ds with
  | [.tup xs] => .ok (.int xs.length) st
  | [.str x] => if x.length ≤ sizeLine then .ok (.int x.length) st else .stuck
  | [.loc l] => match st[l]? with
    | some (.lst xs) => .ok (.int xs.length) st
    | some (.rdl xs) => .ok (.int xs.length) st
    | some (.dK xs) => .ok (.int xs.length) st
    | some (.dT xs) => .ok (.int xs.length) st
    | _ => .stuck
  | _ => .stuck
abbrev rLenG (K : PySem.W.Frag) : List V → Hp → VK → Prop := fun vs H Q => (∃ x n, vs = [x] ∧ LenV K x H n ∧ Q (.int n) H) ∨ (∃ a kvs, vs = [V.ref a] ∧ H a = some (.dK kvs) ∧ Q (.int kvs.length) H) ∨ ∃ a kvs, vs = [V.ref a] ∧ H a = some (.dT kvs) ∧ Q (.int kvs.length) H
theorem lenV_ok {K : PySem.W.Frag} : CallG K lenV (rLenG K) := by
  intro ρ st H ds vs Wx Q k q h
  unfold lenV at h
  split at h
  · cases q with
    | cons r1 q1 =>
      cases q1
      cases r1 with
      | tup ha hz q =>
        have hl := q.length
        exact .inl ⟨_, _, rfl, .inr ⟨_, SqT.of ha, rfl⟩, by rw [← hl]; exact h.now k .int⟩
  · split at h
    · rename_i hz
      cases q with
      | cons r1 q1 =>
        cases q1
        cases r1
        exact .inl ⟨_, _, rfl, ⟨hz, rfl⟩, h.now k .int⟩
    · exact h.elim
  · cases q with
    | cons r1 q1 =>
      cases q1
      cases r1 with
      | loc hr =>
        split at h
        · rename_i hs
          obtain ⟨us, hv, hz', q2⟩ := k.lstAt hr hs
          exact .inl ⟨_, _, rfl, .inl ⟨_, SqL.of hv, rfl⟩, by rw [← q2.length]; exact h.now k .int⟩
        · rename_i hs
          obtain ⟨o, us, hv, hz', q2⟩ := k.ob _ _ _ hs hr
          exact .inl ⟨_, _, rfl, .inl ⟨_, .inl (.inr ⟨o, hv⟩), rfl⟩, by rw [← q2.length]; exact h.now k .int⟩
        · rename_i hs
          obtain ⟨ws, hv, q2⟩ := k.ob _ _ _ hs hr
          exact .inr (.inl ⟨_, ws, rfl, hv, by rw [← q2.length]; exact h.now k .int⟩)
        · rename_i hs
          obtain ⟨ws, hv, q2⟩ := k.ob _ _ _ hs hr
          exact .inr (.inr ⟨_, ws, rfl, hv, by rw [← q2.length]; exact h.now k .int⟩)
        · exact h.elim
  · exact h.elim
/-! list(..), tuple(..) of lists and tuples -/
@[simp] def seqOf (d : D) (st : Store) : Option (List D) := match d with
  | .tup xs => some xs
  | .loc l => match st[l]? with
    | some (.lst xs) => some xs
    | some (.rdl xs) => some xs
    | _ => none
  | _ => none
theorem seqOf_ok {K : PySem.W.Frag} {ρ : List Addr} {st : Store} {H : Hp} {d : D} {v : V} {xs : List D} (k : Ok K ρ st H) (r : Rl ρ H d v) (e : seqOf d st = some xs) : ∃ a vs, v = .ref a ∧ (SqL K H a vs ∨ SqT K H a vs) ∧ vs.length ≤ sizeLine ∧ RlL ρ H xs vs := by
  cases r with
  | tup ha hz q => cases e; exact ⟨_, _, rfl, .inr (SqT.of ha), hz, q⟩
  | loc hr =>
    simp only [seqOf] at e
    split at e
    · rename_i hs
      cases e
      obtain ⟨us, hv, hz', q2⟩ := k.lstAt hr hs
      exact ⟨_, _, rfl, .inl (SqL.of hv), hz', q2⟩
    · rename_i hs
      cases e
      obtain ⟨o, us, hv, hz', q2⟩ := k.ob _ _ _ hs hr
      exact ⟨_, _, rfl, .inl (.inl (.inr ⟨o, hv⟩)), hz', q2⟩
    · cases e
  | _ => cases e
@[simp] def listV : CM := fun ds st => match ds with
  | [d] => match seqOf d st with
    | some xs => .ok (.loc st.length) (st ++ [.lst xs])
    | none => .stuck
  | _ => .stuck
theorem listV_ok {K : PySem.W.Frag} : CallG K listV (fun xs H Q => ∃ p ys, xs = [.ref p] ∧ (SqL K H p ys ∨ SqT K H p ys) ∧ ∀ l, H l = none → Q (.ref l) (upd H l (.lst ys))) := by
  intro ρ st H ds vs Wx Q k q h
  unfold listV at h
  split at h
  · split at h
    · rename_i xs e
      cases q with
      | cons r1 q1 =>
        cases q1
        obtain ⟨a, us, rfl, hs, hz, q⟩ := seqOf_ok k r1 e
        exact ⟨a, us, rfl, hs, Post.newLst k q hz h⟩
    · exact h.elim
  · exact h.elim
@[simp] def tupleV : CM := fun ds st => match ds with
  | [d] => match seqOf d st with
    | some xs => .ok (.tup xs) st
    | none => .stuck
  | _ => .stuck
theorem tupleV_ok {K : PySem.W.Frag} : CallG K tupleV (fun xs H Q => ∃ p ys, xs = [.ref p] ∧ ((SqL K H p ys ∧ ∀ l, H l = none → Q (.ref l) (upd H l (.tup ys))) ∨ (SqT K H p ys ∧ Q (.ref p) H))) := by
  intro ρ st H ds vs Wx Q k q h
  unfold tupleV at h
  split at h
  · rename_i d
    split at h
    · rename_i xs e
      cases q with
      | cons r1 q1 =>
        cases q1
        cases r1 with
        | tup ha hz q => cases e; exact ⟨_, _, rfl, .inr ⟨SqT.of ha, h.now k (.tup ha hz q)⟩⟩
        | loc hr =>
          obtain ⟨a, us, e', hs, hz, q⟩ := seqOf_ok k (.loc hr) e
          cases e'
          simp only [seqOf] at e
          split at e
          · rename_i hs1
            cases e
            obtain ⟨us, hv, hz', q2⟩ := k.lstAt hr hs1
            exact ⟨_, us, rfl, .inl ⟨SqL.of hv, Post.newTup k q2 hz' h⟩⟩
          · rename_i hs1
            cases e
            obtain ⟨o, us, hv, hz', q2⟩ := k.ob _ _ _ hs1 hr
            exact ⟨_, us, rfl, .inl ⟨.inl (.inr ⟨o, hv⟩), Post.newTup k q2 hz' h⟩⟩
          · cases e
        | _ => cases e
    · exact h.elim
  · exact h.elim
/-! ints -/
@[simp] def absV : CM := fun ds st => match ds with
  | [.int i] => .ok (.int (if i < 0 then -i else i)) st
  | _ => .stuck
theorem absV_ok {K : PySem.W.Frag} : CallG K absV (fun xs H Q => ∃ i, xs = [.int i] ∧ Q (.int (if i < 0 then -i else i)) H) := by
  intro ρ st H ds vs Wx Q k q h
  unfold absV at h
  split at h
  · cases q with
    | cons r1 q1 => cases q1; cases r1; exact ⟨_, rfl, h.now k .int⟩
  · exact h.elim
@[simp] def intV : CM := fun ds st => match ds with
  | [.int i] => .ok (.int i) st
  | [.bl b] => .ok (.int (if b then 1 else 0)) st
  | _ => .stuck
theorem intV_ok {K : PySem.W.Frag} : CallG K intV (fun xs H Q => (∃ i, xs = [.int i] ∧ Q (.int i) H) ∨ ∃ k, xs = [.bl k] ∧ Q (.int (if k then 1 else 0)) H) := by
  intro ρ st H ds vs Wx Q k q h
  unfold intV at h
  split at h
  · cases q with
    | cons r1 q1 => cases q1; cases r1; exact .inl ⟨_, rfl, h.now k .int⟩
  · cases q with
    | cons r1 q1 => cases q1; cases r1; exact .inr ⟨_, rfl, h.now k .int⟩
  · exact h.elim
def maxI : List Int → Int
  | [] => 0
  | [i] => i
  | i :: is => if i < maxI is then maxI is else i
theorem maxI_ok : ∀ {ns : List Int} {m : Int}, m ∈ ns → (∀ y ∈ ns, y ≤ m) → m = maxI ns
  | [], _, h, _ => by simp at h
  | [i], m, h, _ => by simpa [maxI] using h
  | i :: j :: is, m, h, hm => by
    have hj : maxI (j :: is) ∈ j :: is ∧ ∀ y ∈ j :: is, y ≤ maxI (j :: is) := by
      clear h hm
      induction is generalizing j with
      | nil => simp [maxI]
      | cons k is ih =>
        obtain ⟨h1, h2⟩ := ih k
        simp only [maxI]
        split
        · rename_i hlt
          refine ⟨List.mem_cons_of_mem _ h1, fun y hy => ?_⟩
          rcases List.mem_cons.mp hy with rfl | hy
          · omega
          · exact h2 y hy
        · rename_i hlt
          refine ⟨List.mem_cons_self, fun y hy => ?_⟩
          rcases List.mem_cons.mp hy with rfl | hy
          · omega
          · have := h2 y hy; omega
    obtain ⟨h1, h2⟩ := hj
    simp only [maxI]
    split
    · rename_i hlt
      have a := hm _ (List.mem_cons_of_mem _ h1)
      rcases List.mem_cons.mp h with rfl | h
      · omega
      · have := h2 m h; omega
    · rename_i hlt
      have a := hm _ (List.mem_cons_self (a := i))
      rcases List.mem_cons.mp h with rfl | h
      · rfl
      · have := h2 m h; omega
def maxV : CM := fun ds st => match ds with
  | [.loc l] => match st[l]? with
    | some (.lst xs) => match intsOf xs with
      | some ns => if 0 < ns.length then .ok (.int (maxI ns)) st else .stuck
      | none => .stuck
    | _ => .stuck
  | _ => .stuck
theorem maxV_ok {K : PySem.W.Frag} : CallG K maxV (rMax K) := by
  intro ρ st H ds vs Wx Q k q h
  unfold maxV at h
  split at h
  · split at h
    · rename_i hs
      split at h
      · rename_i ns e
        split at h
        · rename_i hz
          cases q with
          | cons r1 q1 =>
            cases q1
            cases r1 with
            | loc hr =>
              obtain ⟨us, hv, hz', q2⟩ := k.lstAt hr hs
              have := intsOf_ok e q2
              subst this
              exact ⟨_, ns, rfl, SqL.of hv, hz, fun m h1 h2 => by rw [maxI_ok h1 h2]; exact h.now k .int⟩
        · exact h.elim
      · exact h.elim
    · exact h.elim
  · exact h.elim
def sumV : CM := fun ds st => match ds with
  | [.loc l] => match st[l]? with
    | some (.lst xs) => match intsOf xs with
      | some ns => .ok (.int ns.sum) st
      | none => .stuck
    | _ => .stuck
  | _ => .stuck
theorem sumV_ok {K : PySem.W.Frag} : CallG K sumV (rSum K) := by
  intro ρ st H ds vs Wx Q k q h
  unfold sumV at h
  split at h
  · split at h
    · rename_i hs
      split at h
      · rename_i ns e
        cases q with
        | cons r1 q1 =>
          cases q1
          cases r1 with
          | loc hr =>
            obtain ⟨us, hv, hz', q2⟩ := k.lstAt hr hs
            have := intsOf_ok e q2
            subst this
            exact ⟨_, ns, rfl, SqL.of hv, h.now k .int⟩
      · exact h.elim
    · exact h.elim
  · exact h.elim
def blsOf : List D → Option (List Bool)
  | [] => some []
  | .bl b :: ds => (blsOf ds).map (b :: ·)
  | _ :: _ => none
@[simp] theorem blsOf_map (ns : List Bool) : blsOf (ns.map D.bl) = some ns := by
  induction ns with
  | nil => rfl
  | cons n ns ih => simp [blsOf, ih]
theorem blsOf_ok {ρ : List Addr} {H : Hp} : ∀ {ds : List D} {vs : List V} {ns : List Bool}, blsOf ds = some ns → RlL ρ H ds vs → vs = ns.map V.bl
  | [], _, _, e, q => by cases e; cases q; rfl
  | d :: ds, _, ns, e, q => by
    cases q with
    | cons r q =>
      cases d with
      | bl i =>
        cases e1 : blsOf ds with
        | none => simp [blsOf, e1] at e
        | some ms =>
          simp [blsOf, e1] at e
          subst e
          cases r
          rw [blsOf_ok e1 q]; rfl
      | _ => simp [blsOf] at e
def allV : CM := fun ds st => match ds with
  | [.loc l] => match st[l]? with
    | some (.lst xs) => match blsOf xs with
      | some bs => .ok (.bl (bs.all id)) st
      | none => .stuck
    | _ => .stuck
  | _ => .stuck
def anyV : CM := fun ds st => match ds with
  | [.loc l] => match st[l]? with
    | some (.lst xs) => match blsOf xs with
      | some bs => .ok (.bl (bs.any id)) st
      | none => .stuck
    | _ => .stuck
  | _ => .stuck
theorem allV_ok {K : PySem.W.Frag} : CallG K allV (rAll K) := by
  intro ρ st H ds vs Wx Q k q h
  unfold allV at h
  split at h
  · split at h
    · rename_i hs
      split at h
      · rename_i ns e
        cases q with
        | cons r1 q1 =>
          cases q1
          cases r1 with
          | loc hr =>
            obtain ⟨us, hv, hz', q2⟩ := k.lstAt hr hs
            have := blsOf_ok e q2
            subst this
            exact ⟨_, ns, rfl, SqL.of hv, h.now k .bl⟩
      · exact h.elim
    · exact h.elim
  · exact h.elim
theorem anyV_ok {K : PySem.W.Frag} : CallG K anyV (rAny K) := by
  intro ρ st H ds vs Wx Q k q h
  unfold anyV at h
  split at h
  · split at h
    · rename_i hs
      split at h
      · rename_i ns e
        cases q with
        | cons r1 q1 =>
          cases q1
          cases r1 with
          | loc hr =>
            obtain ⟨us, hv, hz', q2⟩ := k.lstAt hr hs
            have := blsOf_ok e q2
            subst this
            exact ⟨_, ns, rfl, SqL.of hv, h.now k .bl⟩
      · exact h.elim
    · exact h.elim
  · exact h.elim
/-! repr of data -/
def reprV : CM := fun ds st => match ds with
  | [d] => match pyD st 65 d with
    | some p => if p.showable = true ∧ p.hasDict = false ∧ p.depth ≤ 64 ∧ p.shown.length ≤ sizeLine then .ok (.str p.shown) st else .stuck
    | none => .stuck
  | _ => .stuck
section
variable {X : Cx} {W : WX} {e a b c : Expr} {m n : EM} {am : AM} {p p2 pos : Pos}
theorem g_len (hg : Gl X "len") (hm : X.mg "len" = none) (ha : GA X W [e] am) (he : starEach [e] X.env = (false, eval e X.env) :: starEach [] X.env := by rfl) (hpl : (backTo pos (starEach [] X.env)).any (·.1) = false := by rfl) : GE X W (.Call (.Name "len" p) [e] [] pos) (blM lenV am) :=
  g_callB (r := rLenG X.K) (CallR.or call_len (CallR.or call_lenD call_lenDT)) lenV_ok hg hm boot_len ha (by decide) (by decide) he hpl
theorem g_list (hg : Gl X "list") (hm : X.mg "list" = none) (ha : GA X W [e] am) (he : starEach [e] X.env = (false, eval e X.env) :: starEach [] X.env := by rfl) (hpl : (backTo pos (starEach [] X.env)).any (·.1) = false := by rfl) : GE X W (.Call (.Name "list" p) [e] [] pos) (blM listV am) :=
  g_callT call_list_of listV_ok hg hm boot_list ha (by decide) (by decide) he hpl
theorem g_tuple (hg : Gl X "tuple") (hm : X.mg "tuple" = none) (ha : GA X W [e] am) (he : starEach [e] X.env = (false, eval e X.env) :: starEach [] X.env := by rfl) (hpl : (backTo pos (starEach [] X.env)).any (·.1) = false := by rfl) : GE X W (.Call (.Name "tuple" p) [e] [] pos) (blM tupleV am) :=
  g_callT call_tuple_of tupleV_ok hg hm boot_tuple ha (by decide) (by decide) he hpl
theorem g_abs (hg : Gl X "abs") (hm : X.mg "abs" = none) (ha : GA X W [e] am) (he : starEach [e] X.env = (false, eval e X.env) :: starEach [] X.env := by rfl) (hpl : (backTo pos (starEach [] X.env)).any (·.1) = false := by rfl) : GE X W (.Call (.Name "abs" p) [e] [] pos) (blM absV am) :=
  g_callB call_abs absV_ok hg hm (by decide +kernel) ha (by decide) (by decide) he hpl
theorem g_intc (hg : Gl X "int") (hm : X.mg "int" = none) (ha : GA X W [e] am) (he : starEach [e] X.env = (false, eval e X.env) :: starEach [] X.env := by rfl) (hpl : (backTo pos (starEach [] X.env)).any (·.1) = false := by rfl) : GE X W (.Call (.Name "int" p) [e] [] pos) (blM intV am) :=
  g_callT call_int1 intV_ok hg hm (by decide +kernel) ha (by decide) (by decide) he hpl
theorem g_max (hc : X.calm = true) (hg : Gl X "max") (hm : X.mg "max" = none) (ha : GA X W [e] am) (he : starEach [e] X.env = (false, eval e X.env) :: starEach [] X.env := by rfl) (hpl : (backTo pos (starEach [] X.env)).any (·.1) = false := by rfl) : GE X W (.Call (.Name "max" p) [e] [] pos) (blM maxV am) :=
  g_callB (cr_max hc) maxV_ok hg hm (by decide +kernel) ha (by decide) (by decide) he hpl
theorem g_sum (hc : X.calm = true) (hg : Gl X "sum") (hm : X.mg "sum" = none) (ha : GA X W [e] am) (he : starEach [e] X.env = (false, eval e X.env) :: starEach [] X.env := by rfl) (hpl : (backTo pos (starEach [] X.env)).any (·.1) = false := by rfl) : GE X W (.Call (.Name "sum" p) [e] [] pos) (blM sumV am) :=
  g_callB (cr_sum hc) sumV_ok hg hm (by decide +kernel) ha (by decide) (by decide) he hpl
theorem g_all (hc : X.calm = true) (hg : Gl X "all") (hm : X.mg "all" = none) (ha : GA X W [e] am) (he : starEach [e] X.env = (false, eval e X.env) :: starEach [] X.env := by rfl) (hpl : (backTo pos (starEach [] X.env)).any (·.1) = false := by rfl) : GE X W (.Call (.Name "all" p) [e] [] pos) (blM allV am) :=
  g_callB (cr_all hc) allV_ok hg hm (by decide +kernel) ha (by decide) (by decide) he hpl
theorem g_any (hc : X.calm = true) (hg : Gl X "any") (hm : X.mg "any" = none) (ha : GA X W [e] am) (he : starEach [e] X.env = (false, eval e X.env) :: starEach [] X.env := by rfl) (hpl : (backTo pos (starEach [] X.env)).any (·.1) = false := by rfl) : GE X W (.Call (.Name "any" p) [e] [] pos) (blM anyV am) :=
  g_callB (cr_any hc) anyV_ok hg hm (by decide +kernel) ha (by decide) (by decide) he hpl

/-! ### isinstance -/
@[simp] def D.tyOf (st : Store) : D → Option String
  | .non => some "NoneType"
  | .bl _ => some "bool"
  | .int _ => some "int"
  | .str _ => some "str"
  | .tup _ => some "tuple"
  | .loc l => match st[l]? with
    | some (.lst _) => some "list"
    | some (.rdl _) => some "list"
    | some (.dK _) => some "dict"
    | some (.dT _) => some "dict"
    | _ => none
  | .kl _ => none
theorem tyOf_ok {K : PySem.W.Frag} {ρ : List Addr} {st : Store} {H : Hp} {d : D} {v : V} {t : String} (k : Ok K ρ st H) (r : Rl ρ H d v) (e : d.tyOf st = some t) : TyX K H v (.type t) := by
  cases r with
  | non => cases e; exact .base .non
  | bl => cases e; exact .base (.bl _)
  | int => cases e; exact .base (.int _)
  | str => cases e; exact .base (.str _)
  | tup ha hz q => cases e; exact .base (.tup ha)
  | kl => cases e
  | loc hr =>
    simp only [D.tyOf] at e
    split at e
    · rename_i hs
      cases e
      obtain ⟨us, hv, hz', q2⟩ := k.lstAt hr hs
      exact .base (.lst hv)
    · rename_i hs
      cases e
      obtain ⟨o, us, hv, hz', q2⟩ := k.ob _ _ _ hs hr
      exact .base (.frz hv)
    · rename_i hs
      cases e
      obtain ⟨ws, hv, q2⟩ := k.ob _ _ _ hs hr
      exact .base (.dK hv)
    · rename_i hs
      cases e
      obtain ⟨ws, hv, q2⟩ := k.ob _ _ _ hs hr
      exact .base (.dT hv)
    · cases e
/-- isinstance(x, T): T a built-in type -/
@[simp] def isiM (T : String) (m : EM) : EM := fun δ st => (m δ st).bind fun d st => match d.tyOf st with
  | some t => match kitB t T with
    | some b => .ok (.bl b) st
    | none => .stuck
  | none => .stuck
theorem g_isi {x : Str} {T : String} (hg : Gl X "isinstance") (hm : X.mg "isinstance" = none) (hgT : Gl X x) (hmT : X.mg x = none) (hvT : bootBuiltins x = some (.type T)) (ha : GE X W e m)
    (hnT : x ≠ "__name__" := by decide) (hdT : (x == ("__debug__" : Str)) = false := by decide)
    (he : starEach [e, .Name x p2] X.env = (false, eval e X.env) :: starEach [.Name x p2] X.env := by rfl) (he2 : starEach [.Name x p2] X.env = (false, eval (.Name x p2) X.env) :: starEach [] X.env := by rfl) (hpl : (backTo pos (starEach [.Name x p2] X.env)).any (·.1) = false := by rfl) :
    GE X W (.Call (.Name "isinstance" p) [e, .Name x p2] [] pos) (isiM T m) := by
  refine PEw (pe_callB call_isi hg hm (by decide +kernel) (pa_cons ha (pa_cons (pe_bltn (v := .ty T) hgT hmT hvT rfl hnT hdT) pa_nil he2) he) (by decide) (by decide) he hpl) fun σ H Q ⟨ρ, δ, st, k, s, h⟩ => ?_
  refine ⟨ρ, δ, st, k, s, (Post.bind (rel := Rl) h).imp fun v H1 ⟨ρ1, d, st1, e1, k1, r1, h1⟩ => ?_⟩
  split at h1
  · rename_i t et
    split at h1
    · rename_i b eb
      exact ⟨v, .ty T, .type t, .type T, b, rfl, .ty T, tyOf_ok k1 r1 et, kit_ty eb, h1.now k1 .bl⟩
    · exact h1.elim
  · exact h1.elim
end

/-! ### errors of one's own classes without arguments -/
@[simp] def raiseS (C : Str) : SM := fun δ st => .err C [] δ st
section
variable {X : Cx} {W : WX} {C : Addr} {bmB : List Value} {B newId initId : String}
theorem pmk_own0 {x : Str} {p pos : Pos} (F : ExcBaseFacts B newId initId bmB) (q : PySem.W.excIn X.K C bmB newId = true) (gC : X.mg x = some (.ref C)) (kC : PySem.W.keepIn X.K (.ref C) = true) (r : Raises X (.ref C)) (hg : Gl X x)
    (hdb : (x == ("__debug__" : Str)) = false := by decide) : PMk X (.Call (.Name x p) [] [] pos) (fun _ H Q => Q (.ref C) none H) := by
  intro pins s σ H Q I h
  refine wpAny_Call_Name_kw (ld_glob I hg gC ?_ hdb)
  refine PySem.W.callWith_K0 I.kIn kC ?_
  obtain ⟨bm, N, nm, qn, bs, hdct, sn, sub, ab, col, dd, k0, k1, k2, k3, k5, mN, hC, hN, hni, T⟩ := exc_obj I.kIn q
  refine wpAny_call_exc_subT F T hC hN hni (fun h' e hm => ?_) (Nat.zero_le _)
  exact mk_of I hm r h (I.hok.gone hm.new)
theorem gs_raise0 {x : Str} {p pos pos' : Pos} (hc : X.calm = true) (tk : Takes X W) (f : (He.Fa.exc x).ok X.K = true) (gC : X.mg x = some (.ref (He.ga X.K x))) (hg : Gl X x)
    (hdb : (x == ("__debug__" : Str)) = false := by decide) : GS X W (.Raise (some (.Call (.Name x p) [] [] pos)) none pos') (raiseS x) := by
  obtain ⟨f1, f2, f3, f4⟩ := He.exc_ok f
  refine PSw (ps_raise hc tk (pmk_own0 PySem.F.excBase_ValueError f1 gC f2 (raises_own f3 f4) hg hdb)) fun Dn σ H ⟨ρ, δ, st, k, s, h⟩ => ?_
  exact h ρ σ H none .refl k s (.inl ⟨rfl, rfl⟩)
/-- try: .. except X: .. -/
def SRes.noErr : SRes → SRes
  | .err _ _ _ _ => .stuck
  | r => r
theorem PostS.noErr {K : PySem.W.Frag} {ρ : List Addr} {H : Hp} {W : WX} {Dn : Ends} : ∀ {r : SRes}, PostS K ρ H W Dn r.noErr → PostS K ρ H W0 Dn r
  | .ok _ _ _, h => h
  | .err _ _ _ _, h => h.elim
  | .stuck, h => h
def tryS (ctch : Str → Option Bool) (body suite : SM) : SM := fun δ st => match body δ st with
  | .err C fs δ st => match ctch C with
    | some true => (suite δ st).noErr
    | some false => .err C fs δ st
    | none => .stuck
  | r => r
theorem gs_try {x : Str} {body suite : List Stmt} {b₀ : Stmt} {np pos pos' : Pos} {mb ms : SM} {ctch : Str → Option Bool} (hs : X.stack = X.env :: X.outer) (hf : X.env.frame = some X.env.locals) (hg : Gl X x) (hx : X.mg x = some (.ref (He.ga X.K x))) (tk : Takes X W)
    (hcx : ∀ C b, ctch C = some b → PySem.W.exmOne X.K (.ref (He.ga X.K C)) (.ref (He.ga X.K x)) = some b)
    (hb : ∀ (W' : WX) (pn : List (Addr × Obj)) (xe : Value → Shared → Prop), Takes (X.tr pn xe) W' → PassesOwn (model X.prog X.w) X.A X.env xe → GSs (X.tr pn xe) W' body mb)
    (hsu : ∀ (a : Addr) (pn : List (Addr × Obj)), GSs (X.suite a pn) W0 (b₀ :: suite) ms) (hdb : (x == ("__debug__" : Str)) = false := by decide) :
    GS X W (.Try body [.ExceptHandler (some (.Name x np)) none (b₀ :: suite) pos'] [] [] pos) (tryS ctch mb ms) := by
  refine PSw (ps_try_only (tb := fun W' => tGS X.K W' mb) (ts := fun _ _ _ => tGS X.K W0 ms) (Wout := W) hs hf ⟨hg, hdb, .inl hx⟩ tk (fun W' pn xe t p => hb W' pn xe t p) (fun a oe cls d pn _ _ => hsu a _)) fun Dn σ H ⟨ρ, δ, st, k, s, h⟩ => ?_
  refine ⟨ρ, δ, st, k, s, ?_⟩
  unfold tryS at h
  cases hm : mb δ st with
  | ok o δ1 st1 => rw [hm] at h; exact h
  | stuck => rw [hm] at h; exact h
  | err C fs δ1 st1 =>
    rw [hm] at h
    intro ρ1 σ1 H1 d x1 k1 s1 q
    simp only at h
    split at h
    · rename_i ec
      exact ⟨true, hcx _ _ ec, fun _ a _ => ⟨ρ1, δ1, st1, k1, s1, (h.ext x1).noErr⟩, (fun z => nomatch z)⟩
    · rename_i ec
      exact ⟨false, hcx _ _ ec, (fun z => nomatch z), fun _ => h ρ1 σ1 H1 d x1 k1 s1 q⟩
    · exact h.elim
end
end Fx
/-! Fx7: setdefault, locked dicts, two-clause comprehensions, dict comprehensions, dict displays. -/
namespace Fx
open PySem PySem.Spec PyProof.Rows L2

/-! ### d.setdefault(k, v), both kinds of keys -/
section
variable {X : Cx} {pins : List (Addr × Obj)} {σ : St} {H : Hp} {s : Shared} {a b : Addr} {r : Value} {d : V} {k : List Key} {A : Around} {E : Value → Shared → Prop}
theorem d_setdT {kvs : List (List Key × V)} {Q : Value → Shared → Prop} (hu : A.units + 1 < cLine) (I : Inv X pins σ H s) (e : H a = some (.dT kvs)) (eb : H b = some (.tup (k.map kV))) (rd : RelV d r) (hl : kvs.length < sizeLine)
    (h1 : ∀ v, valV kvs k = some v → ∀ (w' : Value) (s' : Shared), Inv X pins σ H s' → RelV v w' → Q w' s') (h2 : valV kvs k = none → ∀ (w' : Value) (s' : Shared), Inv X pins σ (upd H a (.dT (putK kvs k d))) s' → RelV d w' → Q w' s') :
    wpAny (model X.prog X.w) A (call (.builtin "dict.setdefault") [.ref a, .ref b, r]) Q E s := by
  obtain ⟨z, hd, xs, rel, dd⟩ := dt_of I.hok e
  have hz : xs.length ≤ sizeLine := by rw [← Paired.length rel]; exact z
  have hl2 : (putK kvs k d).length ≤ sizeLine := by have := length_putK kvs k d; omega
  have q := rel.val k
  refine call_setdefault_heap (hsz := hz) (tupleKind_room_in1 hu) (key_of I.hok eb) hd dd (fun p hp => ?_) fun hn h' dd' hs => ?_
  · rw [hp] at q
    cases q0 : valV kvs k with
    | none => rw [q0] at q; exact (show False from q).elim
    | some v0 => rw [q0] at q; exact h1 v0 q0 _ _ (I.tok _) q
  · rw [hn] at q
    cases q0 : valV kvs k with
    | some v0 => rw [q0] at q; exact (show False from q).elim
    | none =>
      obtain ⟨ob, es, ep, hq, y2, y3, y4, _, y5⟩ := dd'
      refine h2 q0 _ _ (d_write I (by rw [e]; exact True.intro) hs ⟨ob, hq⟩ ⟨hl2, hd, _, (rel.put k eb rd).keeps fun c ys ec => ?_, ob, es, ep, hq, y2, y3, y4, y5⟩) rd
      rw [upd_ne (ne_of ec e (fun z => nomatch z))]
      exact ec
end
def tDSetdT (td ty tx : TE) : TE := fun σ H Q => td σ H fun x H1 => ∃ a, x = .ref a ∧ IsD H1 a ∧ ty σ H1 fun y H2 => tx σ H2 fun z H3 => ∃ (kvs : List (List Key × V)) (k : List Key) (b : Addr), H3 a = some (.dT kvs) ∧ y = .ref b ∧ H3 b = some (.tup (k.map kV)) ∧ kvs.length < sizeLine ∧
  (∀ v, valV kvs k = some v → Q v H3) ∧ (valV kvs k = none → Q z (upd H3 a (.dT (putK kvs k z))))
theorem pe_dsetdT {X : Cx} {o e f : Expr} {td ty tx : TE} {apos cpos : Pos} (hu : X.A.units + 2 < cLine) (ho : PE X o td) (he : PE X e ty) (hf : PE X f tx) (m : M2 X o "setdefault" apos e f cpos) : PE X (.Call (.Attribute o "setdefault" apos) [e, f] [] cpos) (tDSetdT td ty tx) := by
  refine ⟨fun pins s σ H Q I h => ?_⟩
  refine wpAny_Call_method m.base m.few m.line PySem.F.plainAttrs_dict PySem.F.slot_dict_setdefault PySem.F.type_dict_setdefault (thn (ho.run pins s σ H _ I h) fun u s1 ⟨x, H1, I1, rx, a, ex, d, q1⟩ => ?_)
  subst ex
  obtain rfl : u = Value.ref a := rx
  obtain ⟨t1, t2, _⟩ := isD_at I1 d
  refine ⟨t1, t2, ?_⟩
  rw [m.trees]
  refine Calls.callWith_builtin rfl (Calls.evalArgs_plain (Calls.spliced_cons (thn (he.run pins s1 σ H1 _ I1 q1) fun iv s2 ⟨y, H2, I2, ry, q2⟩ =>
    Calls.spliced_cons (thn (hf.run pins s2 σ H2 _ I2 q2) fun fv s3 ⟨z, H3, I3, rz, kvs, k, b, ea, ey, eb, hl, q3, q4⟩ => Calls.spliced_nil ?_))))
  subst ey
  cases (show iv = Value.ref b from ry)
  exact d_setdT (by omega) I3 ea eb rz hl (fun v hv w' s4 I4 rw' => ⟨v, _, I4, rw', q3 v hv⟩) fun hn w' s4 I4 rw' => ⟨z, _, I4, rw', q4 hn⟩
def setdV (l : Nat) (y d : D) (st : Store) : Res D := match st[l]? with
  | some (.dK kvs) => if kvs.length < sizeLine then (match keyOf y with
    | some k => (match getK kvs k with
      | some v => .ok v st
      | none => .ok d (st.set l (.dK (putD kvs k d))))
    | none => .stuck) else .stuck
  | some (.dT kvs) => if kvs.length < sizeLine then (match keyTOf y with
    | some k => (match getK kvs k with
      | some v => .ok v st
      | none => .ok d (st.set l (.dT (putD kvs k d))))
    | none => .stuck) else .stuck
  | _ => .stuck
def MO.isD : MO → Bool
  | .dK _ => true
  | .dT _ => true
  | _ => false
def setdAM (mo mk mv : EM) : EM := fun δ st => (mo δ st).bind fun x st => match x with
  | .loc l => if (st[l]?.map MO.isD) = some true then (mk δ st).bind fun y st => (mv δ st).bind fun d st => setdV l y d st else .stuck
  | _ => .stuck
theorem isD_ok {K : PySem.W.Frag} {ρ : List Addr} {st : Store} {H : Hp} (k : Ok K ρ st H) {l : Nat} {a : Addr} (ha : ρ[l]? = some a) (h : (st[l]?.map MO.isD) = some true) : IsD H a := by
  cases hs : st[l]? with
  | none => rw [hs] at h; cases h
  | some mo =>
    rw [hs] at h
    cases mo with
    | dK kvs => obtain ⟨ws, hw, q⟩ := k.ob _ _ _ hs ha; exact .inl ⟨ws, .inl hw⟩
    | dT kvs => obtain ⟨ws, hw, q⟩ := k.ob _ _ _ hs ha; exact .inr ⟨ws, .inl hw⟩
    | _ => cases h
theorem PE.or2 {X : Cx} {e : Expr} {t t' u : TE} (h : PE X e t) (h' : PE X e t') (w : ∀ σ H Q, u σ H Q → t σ H Q ∨ t' σ H Q) : PE X e u := ⟨fun pins s σ H Q I q => by
  rcases w σ H Q q with q | q
  · exact h.run pins s σ H Q I q
  · exact h'.run pins s σ H Q I q⟩
section
variable {X : Cx} {W : WX} {o e f : Expr} {mo mk mv : EM} {apos cpos : Pos}
theorem g_setdA (hu : X.A.units + 2 < cLine) (ho : GE X W o mo) (hk : GE X W e mk) (hv : GE X W f mv) (m : M2 X o "setdefault" apos e f cpos) : GE X W (.Call (.Attribute o "setdefault" apos) [e, f] [] cpos) (setdAM mo mk mv) := by
  refine PE.or2 (pe_dsetd ho hk hv m) (pe_dsetdT hu ho hk hv m) fun σ H Q ⟨ρ, δ, st, k, s, h⟩ => ?_
  unfold setdAM at h
  cases h1 : mo δ st with
  | stuck => rw [h1] at h; exact h.elim
  | err C fs st1 => rw [h1] at h; exact .inl (tG_err k s h1 h)
  | ok x st1 =>
    rw [h1] at h
    simp only [Res.bind_ok] at h
    split at h
    · rename_i l
      split at h
      · rename_i hD
        cases h2 : mk δ st1 with
        | stuck => rw [h2] at h; exact h.elim
        | err C fs st2 =>
          rw [h2] at h
          exact .inl (tG_ok k s h1 fun ρ1 H1 v x1 k1 r1 => by cases r1 with | loc hr => exact ⟨_, rfl, isD_ok k1 hr hD, tG_err k1 (s.mono x1) h2 (h.ext x1)⟩)
        | ok y st2 =>
          rw [h2] at h
          simp only [Res.bind_ok] at h
          cases h3 : mv δ st2 with
          | stuck => rw [h3] at h; exact h.elim
          | err C fs st3 =>
            rw [h3] at h
            exact .inl (tG_ok k s h1 fun ρ1 H1 v x1 k1 r1 => by cases r1 with | loc hr => exact ⟨_, rfl, isD_ok k1 hr hD, tG_ok k1 (s.mono x1) h2 fun ρ2 H2 u x2 k2 r2 => tG_err k2 (s.mono (x1.trans x2)) h3 (h.ext (x1.trans x2))⟩)
          | ok d st3 =>
            rw [h3] at h
            simp only [Res.bind_ok] at h
            have all : ∀ {r : Res D} (h : Post X.K ρ H (fun c d => W c d σ) Rl Q r) {Q' : Addr → V → V → Hp → Prop}, (∀ ρ3 H3 a u w, Ok X.K ρ3 st3 H3 → ρ3[l]? = some a → Rl ρ3 H3 y u → Rl ρ3 H3 d w → Post X.K ρ3 H3 (fun c d => W c d σ) Rl Q r → Q' a u w H3) →
                tG X.K W mo σ H fun v H1 => ∃ a, v = .ref a ∧ IsD H1 a ∧ tG X.K W mk σ H1 fun u H2 => tG X.K W mv σ H2 fun w H3 => Q' a u w H3 := fun {r} h {Q'} hq =>
              tG_ok k s h1 fun ρ1 H1 v x1 k1 r1 => by
                cases r1 with
                | loc hr => exact ⟨_, rfl, isD_ok k1 hr hD, tG_ok k1 (s.mono x1) h2 fun ρ2 H2 u x2 k2 r2 => tG_ok k2 (s.mono (x1.trans x2)) h3 fun ρ3 H3 w x3 k3 r3 => hq ρ3 H3 _ u w k3 ((x2.trans x3).at hr) (r2.mono x3) r3 (h.ext (x1.trans (x2.trans x3)))⟩
            unfold setdV at h
            split at h
            · rename_i kvs hs
              refine .inl (all h fun ρ3 H3 a u w k3 hr ry rw' hp => ?_)
              split at hp
              · rename_i hz
                split at hp
                · rename_i key hk3
                  obtain ⟨ws, hw, q⟩ := k3.ob _ _ _ hs hr
                  have rv := q.val key
                  refine ⟨ws, key, hw, keyOf_ok hk3 ry, by rw [← q.length]; exact hz, fun v hv => ?_, fun hn => ?_⟩
                  · rw [hv] at rv
                    cases hg : getK kvs key with
                    | none => rw [hg] at rv; exact rv.elim
                    | some d => rw [hg] at rv hp; exact hp.now k3 rv
                  · rw [hn] at rv
                    cases hg : getK kvs key with
                    | some d => rw [hg] at rv; exact rv.elim
                    | none =>
                      rw [hg] at hp
                      have wr : ∀ o, Ext ρ3 H3 ρ3 (upd H3 _ o) := fun o => Ext.wr hw fun _ z => nomatch z
                      exact hp ρ3 _ w (wr _) (k3.set (mo := .dK (putD kvs key d)) hs hr ⟨_, upd_same, (q.put rw').mono (wr _)⟩) (rw'.mono (wr _))
                · exact hp.elim
              · exact hp.elim
            · rename_i kvs hs
              refine .inr (all h fun ρ3 H3 a u w k3 hr ry rw' hp => ?_)
              split at hp
              · rename_i hz
                split at hp
                · rename_i key hk3
                  obtain ⟨ws, hw, q⟩ := k3.ob _ _ _ hs hr
                  have rv := q.val key
                  cases ry with
                  | tup hb hzb ql =>
                    simp only [keyTOf] at hk3
                    refine ⟨ws, key, _, hw, rfl, by rw [hb, keysOf_ok hk3 ql], by rw [← q.length]; exact hz, fun v hv => ?_, fun hn => ?_⟩
                    · rw [hv] at rv
                      cases hg : getK kvs key with
                      | none => rw [hg] at rv; exact rv.elim
                      | some d => rw [hg] at rv hp; exact hp.now k3 rv
                    · rw [hn] at rv
                      cases hg : getK kvs key with
                      | some d => rw [hg] at rv; exact rv.elim
                      | none =>
                        rw [hg] at hp
                        have wr : ∀ o, Ext ρ3 H3 ρ3 (upd H3 _ o) := fun o => Ext.wr hw fun _ z => nomatch z
                        exact hp ρ3 _ w (wr _) (k3.set (mo := .dT (putD kvs key d)) hs hr ⟨_, upd_same, (q.put rw').mono (wr _)⟩) (rw'.mono (wr _))
                  | _ => simp [keyTOf] at hk3
                · exact hp.elim
              · exact hp.elim
            · exact h.elim
      · exact h.elim
    · exact h.elim
end

/-! ### a dict locked while it is walked -/
def MO.lock : MO → Option MO
  | .dK kvs => some (.fK kvs)
  | .dT kvs => some (.fT kvs)
  | _ => none
def MO.same : MO → MO → Prop
  | a, b => a = b
open Classical in
noncomputable def unlockR (l : Nat) (u f : MO) (r : SRes) : SRes := match r with
  | .ok o δ st => if st[l]? = some f then .ok o δ (st.set l u) else .stuck
  | _ => .stuck
open Classical in
noncomputable def unlockE (l : Nat) (u f : MO) (r : Res D) : Res D := match r with
  | .ok d st => if st[l]? = some f then .ok d (st.set l u) else .stuck
  | _ => .stuck
/-- the dict in slot i is locked while the statement runs -/
noncomputable def lockS (i : Nat) (m : SM) : SM := fun δ st => match δ[i]? with
  | some (some (.loc l)) => match st[l]? with
    | some u => match u.lock with
      | some f => unlockR l u f (m δ (st.set l f))
      | none => .stuck
    | none => .stuck
  | _ => .stuck
noncomputable def lockM (i : Nat) (m : EM) : EM := fun δ st => match δ[i]? with
  | some (some (.loc l)) => match st[l]? with
    | some u => match u.lock with
      | some f => unlockE l u f (m δ (st.set l f))
      | none => .stuck
    | none => .stuck
  | _ => .stuck
theorem lock_core {K : PySem.W.Frag} {ρ : List Addr} {st : Store} {H : Hp} (k : Ok K ρ st H) {l : Nat} {a : Addr} {u f : MO} {o : HO} (hr : ρ[l]? = some a) (hs : st[l]? = some u) (hw : H a = some o) (nt : ∀ xs, o ≠ .tup xs) (nf : ∀ q v, o ≠ .frz q v)
    (cf : ∀ od, Co K ρ (upd H a (.frz od o)) a f) (cu : ∀ ρ' H', Ext ρ H ρ' H' → H' a = some o → Co K ρ' H' a u) :
    (∀ od, Ok K ρ (st.set l f) (upd H a (.frz od o)) ∧ Ext ρ H ρ (upd H a (.frz od o))) ∧
      ∀ od ρ' st' H', Ok K ρ' st' H' → Ext ρ (upd H a (.frz od o)) ρ' H' → st'[l]? = some f → H' a = some (.frz od o) ∧ Ok K ρ' (st'.set l u) (upd H' a o) ∧ Ext ρ H ρ' (upd H' a o) ∧ (∀ b xs, H' b = some (.tup xs) → upd H' a o b = some (.tup xs)) := by
  refine ⟨fun od => ⟨k.set (mo := f) hs hr (cf od), Ext.wr hw nt nf⟩, fun od ρ' st' H' k' x hs' => ?_⟩
  have hf : H' a = some (.frz od o) := x.fz a od o upd_same
  have ne : ∀ b xs, H' b = some (.tup xs) → b ≠ a := fun b xs h e => by subst e; rw [hf] at h; cases h
  have im : ∀ b xs, H' b = some (.tup xs) → upd H' a o b = some (.tup xs) := fun b xs h => by rw [upd_ne (ne b xs h)]; exact h
  have ex : Ext ρ H ρ' (upd H' a o) := ⟨x.pre, fun b xs h => by
      have hb : b ≠ a := fun e => by subst e; rw [hw] at h; cases h; exact nt xs rfl
      exact im b xs (x.im b xs (by rw [upd_ne hb]; exact h)), fun b q v h => by
      have hb : b ≠ a := fun e => by subst e; rw [hw] at h; cases h; exact nf q v rfl
      rw [upd_ne hb]
      exact x.fz b q v (by rw [upd_ne hb]; exact h)⟩
  exact ⟨hf, k'.set (mo := u) hs' (x.at hr) (cu ρ' _ ex upd_same), ex, im⟩
theorem lock_of {K : PySem.W.Frag} {ρ : List Addr} {st : Store} {H : Hp} (k : Ok K ρ st H) {l : Nat} {a : Addr} {u f : MO} (hr : ρ[l]? = some a) (hs : st[l]? = some u) (hl : u.lock = some f) :
    ∃ o, H a = some o ∧ Mut (some o) ∧ (∀ od, Ok K ρ (st.set l f) (upd H a (.frz od o)) ∧ Ext ρ H ρ (upd H a (.frz od o))) ∧
      ∀ od ρ' st' H', Ok K ρ' st' H' → Ext ρ (upd H a (.frz od o)) ρ' H' → st'[l]? = some f → H' a = some (.frz od o) ∧ Ok K ρ' (st'.set l u) (upd H' a o) ∧ Ext ρ H ρ' (upd H' a o) ∧ (∀ b xs, H' b = some (.tup xs) → upd H' a o b = some (.tup xs)) := by
  cases u with
  | dK kvs =>
    cases hl
    obtain ⟨ws, hw, q⟩ := k.ob _ _ _ hs hr
    exact ⟨_, hw, True.intro, lock_core k hr hs hw (fun _ z => nomatch z) (fun _ _ z => nomatch z) (fun od => ⟨od, ws, upd_same, q.mono (Ext.wr hw fun _ z => nomatch z)⟩) fun ρ' H' x e => ⟨ws, e, q.mono x⟩⟩
  | dT kvs =>
    cases hl
    obtain ⟨ws, hw, q⟩ := k.ob _ _ _ hs hr
    exact ⟨_, hw, True.intro, lock_core k hr hs hw (fun _ z => nomatch z) (fun _ _ z => nomatch z) (fun od => ⟨od, ws, upd_same, q.mono (Ext.wr hw fun _ z => nomatch z)⟩) fun ρ' H' x e => ⟨ws, e, q.mono x⟩⟩
  | _ => cases hl
section
variable {X : Cx} {W : WX} {tg e : Expr} {st0 : Stmt} {a : SM} {m : EM} {apos cpos : Pos}
theorem gs_lock {i : Nat} (h : GS X W st0 a) : GS X W st0 (lockS i a) := by
  refine PSw (ps_lock h) fun Dn σ H ⟨ρ, δ, st, k, s, h⟩ => ?_
  unfold lockS at h
  split at h
  · rename_i l hi
    split at h
    · rename_i u hs
      split at h
      · rename_i f hl
        obtain ⟨v, hv, r⟩ := s.get hi
        cases r with
        | loc hr =>
          rename_i d
          obtain ⟨o, ho, mu, hlk, hun⟩ := lock_of k hr hs hl
          refine ⟨d, o, ho, mu, fun od => ?_⟩
          obtain ⟨k1, x1⟩ := hlk od
          refine ⟨ρ, δ, _, k1, s.mono x1, ?_⟩
          cases hm : a δ (st.set l f) with
          | stuck => rw [hm] at h; exact h.elim
          | err C fs δ1 st1 => rw [hm] at h; exact h.elim
          | ok out δ1 st1 =>
            rw [hm] at h
            simp only [unlockR] at h
            split at h
            · rename_i hf
              intro ρ' σ' H' x' k' s'
              obtain ⟨e1, e2, e3, e4⟩ := hun od ρ' st1 H' k' x' hf
              cases out with
              | nx => exact ⟨e1, h ρ' σ' _ e3 e2 (s'.im e4)⟩
              | bk => exact ⟨e1, h ρ' σ' _ e3 e2 (s'.im e4)⟩
              | ct => exact ⟨e1, h ρ' σ' _ e3 e2 (s'.im e4)⟩
              | rt dd => exact fun v rv => ⟨e1, h ρ' σ' _ e3 e2 (s'.im e4) v (rv.im e4)⟩
            · exact h.elim
      · exact h.elim
    · exact h.elim
  · exact h.elim
theorem g_lock {i : Nat} (h : GE X W e m) : GE X W e (lockM i m) := by
  refine PEw (pe_lock h) fun σ H Q ⟨ρ, δ, st, k, s, h⟩ => ?_
  unfold lockM at h
  split at h
  · rename_i l hi
    split at h
    · rename_i u hs
      split at h
      · rename_i f hl
        obtain ⟨v, hv, r⟩ := s.get hi
        cases r with
        | loc hr =>
          rename_i d
          obtain ⟨o, ho, mu, hlk, hun⟩ := lock_of k hr hs hl
          refine ⟨d, o, ho, mu, fun od => ?_⟩
          obtain ⟨k1, x1⟩ := hlk od
          refine ⟨ρ, δ, _, k1, s.mono x1, ?_⟩
          cases hm : m δ (st.set l f) with
          | stuck => rw [hm] at h; exact h.elim
          | err C fs st1 => rw [hm] at h; exact h.elim
          | ok out st1 =>
            rw [hm] at h
            simp only [unlockE] at h
            split at h
            · rename_i hf
              intro ρ' H' b x' k' r'
              obtain ⟨e1, e2, e3, e4⟩ := hun od ρ' st1 H' k' x' hf
              exact ⟨e1, h ρ' _ b e3 e2 (r'.im e4)⟩
            · exact h.elim
      · exact h.elim
    · exact h.elim
  · exact h.elim
/-! walks over a locked dict -/
def kTD (ks : List Key) : D := .tup (ks.map kD)
def keysI (m : EM) : IM := fun δ st => (m δ st).bind fun x st => match x with
  | .loc l => match st[l]? with
    | some (.fK kvs) => .ok ⟨kvs.map fun p => kD p.1, [(l, .fK kvs)]⟩ st
    | some (.fT kvs) => if (kvs.all fun p => decide (p.1.length ≤ sizeLine)) = true then .ok ⟨kvs.map fun p => kTD p.1, [(l, .fT kvs)]⟩ st else .stuck
    | _ => .stuck
  | _ => .stuck
def valsI (m : EM) : IM := fun δ st => (m δ st).bind fun x st => match x with
  | .loc l => match st[l]? with
    | some (.fK kvs) => .ok ⟨kvs.map fun p => p.2, [(l, .fK kvs)]⟩ st
    | _ => .stuck
  | _ => .stuck
def itemsI (m : EM) : IM := fun δ st => (m δ st).bind fun x st => match x with
  | .loc l => match st[l]? with
    | some (.fK kvs) => .ok ⟨kvs.map fun p => .tup [kD p.1, p.2], [(l, .fK kvs)]⟩ st
    | _ => .stuck
  | _ => .stuck
theorem RlL.keys {ρ : List Addr} {H : Hp} : ∀ ks : List Key, RlL ρ H (ks.map kD) (ks.map kV)
  | [] => .nil
  | k :: ks => .cons (kD_rl k) (RlL.keys ks)
theorem fz_of {K : PySem.W.Frag} {ρ ρ1 : List Addr} {st1 : Store} {H H1 : Hp} {l : Nat} {a : Addr} {kvs : List (Key × D)} {od : Obj} {ws : List (Key × V)} (x : Ext ρ H ρ1 H1) (k : Ok K ρ1 st1 H1) (hr : ρ[l]? = some a) (hw : H a = some (.frz od (.dK ws))) (hs : st1[l]? = some (.fK kvs)) :
    H1 a = some (.frz od (.dK ws)) ∧ KRl ρ1 H1 kvs ws := by
  have h1 := x.fz a od _ hw
  obtain ⟨o', ws', h2, q⟩ := k.ob _ _ _ hs (x.at hr)
  rw [h1] at h2; cases h2
  exact ⟨h1, q⟩
theorem fzT_of {K : PySem.W.Frag} {ρ ρ1 : List Addr} {st1 : Store} {H H1 : Hp} {l : Nat} {a : Addr} {kvs : List (List Key × D)} {od : Obj} {ws : List (List Key × V)} (x : Ext ρ H ρ1 H1) (k : Ok K ρ1 st1 H1) (hr : ρ[l]? = some a) (hw : H a = some (.frz od (.dT ws))) (hs : st1[l]? = some (.fT kvs)) :
    H1 a = some (.frz od (.dT ws)) ∧ KRl ρ1 H1 kvs ws := by
  have h1 := x.fz a od _ hw
  obtain ⟨o', ws', h2, q⟩ := k.ob _ _ _ hs (x.at hr)
  rw [h1] at h2; cases h2
  exact ⟨h1, q⟩
theorem gi_keys (he : GE X W e m) : GI X W tg e (keysI m) := by
  refine PIw (pi_keys he) fun σ H R ⟨ρ, δ, st, k, s, h⟩ => ?_
  refine ⟨ρ, δ, st, k, s, (Post.bind (rel := Rl) h).imp fun v H1 ⟨ρ1, d, st1, x1, k1, r1, h1⟩ => ?_⟩
  split at h1
  · rename_i l
    cases r1 with
    | loc hr =>
      split at h1
      · rename_i kvs hs
        obtain ⟨od, ws, hw, q⟩ := k1.ob _ _ _ hs hr
        refine ⟨_, od, rfl, .inl ⟨ws, hw, h1 ρ1 H1 _ .refl k1 ?_⟩⟩
        intro ρ2 st2 H2 x2 k2 g
        obtain ⟨e1, q2⟩ := fz_of x2 k2 hr hw (gok_one.mp g)
        have hl := q2.length
        simp only [List.length_map]
        refine ⟨fun i hi => ⟨e1, by omega⟩, ⟨e1, by omega⟩, fun i xv H' hi y => ?_⟩
        obtain ⟨rfl, key, v, hk, rfl⟩ := y
        obtain ⟨d, hd, r⟩ := q2.get hk
        exact ⟨.refl, k2, kD key, by simp [hd], kD_rl key⟩
      · rename_i kvs hs
        split at h1
        case isFalse => exact h1.elim
        rename_i hsz
        obtain ⟨od, ws, hw, q⟩ := k1.ob _ _ _ hs hr
        refine ⟨_, od, rfl, .inr ⟨ws, hw, h1 ρ1 H1 _ .refl k1 ?_⟩⟩
        intro ρ2 st2 H2 x2 k2 g
        obtain ⟨e1, q2⟩ := fzT_of x2 k2 hr hw (gok_one.mp g)
        have hl := q2.length
        simp only [List.length_map]
        refine ⟨fun i hi => ⟨e1, by omega⟩, ⟨e1, by omega⟩, fun i xv H' hi y => ?_⟩
        obtain ⟨rfl, key, v, b, hk, rfl, hb⟩ := y
        obtain ⟨d, hd, r⟩ := q2.get hk
        have hz : key.length ≤ sizeLine := of_decide_eq_true (List.all_eq_true.mp hsz _ (List.mem_of_getElem? hd))
        exact ⟨.refl, k2, kTD key, by simp [hd], .tup hb (by simpa using hz) (RlL.keys key)⟩
      · exact h1.elim
  · exact h1.elim
theorem gi_vals (he : GE X W e m) (hbase : attributeBase e "values" X.env (eval e X.env) = eval e X.env := by rfl) (hline : (apos.endLine == cpos.line) = true := by rfl) : GI X W tg (.Call (.Attribute e "values" apos) [] [] cpos) (valsI m) := by
  refine PIw (pi_values he hbase hline) fun σ H R ⟨ρ, δ, st, k, s, h⟩ => ?_
  refine ⟨ρ, δ, st, k, s, (Post.bind (rel := Rl) h).imp fun v H1 ⟨ρ1, d, st1, x1, k1, r1, h1⟩ => ?_⟩
  split at h1
  · rename_i l
    cases r1 with
    | loc hr =>
      split at h1
      · rename_i kvs hs
        obtain ⟨od, ws, hw, q⟩ := k1.ob _ _ _ hs hr
        refine ⟨_, od, ws, rfl, hw, h1 ρ1 H1 _ .refl k1 ?_⟩
        intro ρ2 st2 H2 x2 k2 g
        obtain ⟨e1, q2⟩ := fz_of x2 k2 hr hw (gok_one.mp g)
        have hl := q2.length
        simp only [List.length_map]
        refine ⟨fun i hi => ⟨e1, by omega⟩, ⟨e1, by omega⟩, fun i xv H' hi y => ?_⟩
        obtain ⟨rfl, key, hk⟩ := y
        obtain ⟨d, hd, r⟩ := q2.get hk
        exact ⟨.refl, k2, d, by simp [hd], r⟩
      · exact h1.elim
  · exact h1.elim
theorem gi_items {elts : List Expr} {kk : Nat} {tpos : Pos} (he : GE X W e m) (hbase : attributeBase e "items" X.env (eval e X.env) = eval e X.env := by rfl) (hline : (apos.endLine == cpos.line) = true := by rfl) : GI X W (.Tuple elts kk tpos) (.Call (.Attribute e "items" apos) [] [] cpos) (itemsI m) := by
  refine PIw (pi_items he hbase hline) fun σ H R ⟨ρ, δ, st, k, s, h⟩ => ?_
  refine ⟨ρ, δ, st, k, s, (Post.bind (rel := Rl) h).imp fun v H1 ⟨ρ1, d, st1, x1, k1, r1, h1⟩ => ?_⟩
  split at h1
  · rename_i l
    cases r1 with
    | loc hr =>
      split at h1
      · rename_i kvs hs
        obtain ⟨od, ws, hw, q⟩ := k1.ob _ _ _ hs hr
        refine ⟨_, od, ws, rfl, hw, h1 ρ1 H1 _ .refl k1 ?_⟩
        intro ρ2 st2 H2 x2 k2 g
        obtain ⟨e1, q2⟩ := fz_of x2 k2 hr hw (gok_one.mp g)
        have hl := q2.length
        simp only [List.length_map]
        refine ⟨fun i hi => ⟨e1, by omega⟩, ⟨e1, by omega⟩, fun i xv H' hi y => ?_⟩
        obtain ⟨T, key, v, hk, rfl, hT, rfl⟩ := y
        obtain ⟨d, hd, r⟩ := q2.get hk
        obtain ⟨z1, z2, z3⟩ := newPair k2 hT (kD_rl (ρ := ρ2) (H := H2) key) r
        exact ⟨z1, z2, _, by simp [hd], z3⟩
      · exact h1.elim
  · exact h1.elim
end
end Fx
/-! Fx8: comprehensions with two clauses, dict comprehensions, dict displays. -/
namespace Fx
open PySem PySem.Spec PyProof.Rows L2

theorem wipe_wipe {σ : St} {vs : List Nat} : wipe (wipe σ vs) vs = wipe σ vs := by
  apply List.ext_getElem?
  intro j
  by_cases hj : j ∈ vs
  · simp [wipe_get, hj]; cases σ[j]? <;> rfl
  · simp [wipe_get, hj]
def okThen (r : Res Unit) (P : Store → Prop) : Prop := match r with
  | .ok _ st => P st
  | _ => False
theorem okThen_ok {u st} {P : Store → Prop} : okThen (.ok u st) P = P st := rfl
theorem okThen_imp {r : Res Unit} {P Q : Store → Prop} (f : ∀ st, P st → Q st) (h : okThen r P) : okThen r Q := by
  cases r with
  | ok u st => exact f st h
  | err _ _ _ => exact h
  | stuck => exact h
/-! ### one clause of a comprehension that adds to the list at n -/
open Classical in
noncomputable def clGo (gs : List (Nat × MO)) (g : TGM) (c : BM) (f : En → Store → Res Unit) (δ : En) : List D → Store → Res Unit
  | [], st => if gok gs st then .ok () st else .stuck
  | x :: xs, st => if gok gs st then (match g x δ st with
      | .ok .nx δ1 st => (match c δ1 st with
        | .ok true st => (match f δ1 st with
          | .ok _ st => clGo gs g c f δ xs st
          | _ => .stuck)
        | .ok false st => clGo gs g c f δ xs st
        | _ => .stuck)
      | _ => .stuck) else .stuck
/-- the element, added -/
def addEl (e : EM) (n : Nat) : En → Store → Res Unit := fun δ st => match e δ st with
  | .ok d st => (match st[n]? with
    | some (.lst ds) => if ds.length < sizeLine then .ok () (st.set n (.lst (ds ++ [d]))) else .stuck
    | _ => .stuck)
  | _ => .stuck
/-- the pair, put -/
def addKV (ek ev : EM) (n : Nat) : En → Store → Res Unit := fun δ st => match ek δ st with
  | .ok y st => (match ev δ st with
    | .ok d st => (match st[n]?, keyOf y with
      | some (.dK kvs), some k => if kvs.length < sizeLine then .ok () (st.set n (.dK (putD kvs k d))) else .stuck
      | _, _ => .stuck)
    | _ => .stuck)
  | _ => .stuck
noncomputable def clIn (im : IM) (g : TGM) (c : BM) (f : En → Store → Res Unit) (vs : List Nat) : En → Store → Res Unit := fun δ st => match im δ st with
  | .ok it st => clGo it.gs g c f (wipeD δ vs) it.xs st
  | _ => .stuck
noncomputable def lc2M (im : IM) (g : TGM) (c : BM) (im1 : IM) (g1 : TGM) (c1 : BM) (e : EM) (vs vs1 : List Nat) : EM := fun δ st => (im δ st).bind fun it st0 =>
  (clGo it.gs g c (clIn im1 g1 c1 (addEl e st0.length) vs1) (wipeD δ vs) it.xs (st0 ++ [.lst []])).bind fun _ st => .ok (.loc st0.length) st
noncomputable def dcM (im : IM) (g : TGM) (c : BM) (ek ev : EM) (vs : List Nat) : EM := fun δ st => (im δ st).bind fun it st0 =>
  (clGo it.gs g c (addKV ek ev st0.length) (wipeD δ vs) it.xs (st0 ++ [.dK []])).bind fun _ st => .ok (.loc st0.length) st
section
variable {K : PySem.W.Frag}
/-- a clause runs: what the reading of its loop asks -/
theorem cl_core {gs : List (Nat × MO)} {g : TGM} {c : BM} {f : En → Store → Res Unit} {vs : List Nat} (good : GoodG g) {ρ0 : List Addr} {H0 : Hp} {σ : St} {δ : En} {J : It} {xs : List D} {Fin : Hp → Prop} {tf : St → Hp → (Hp → Prop) → Prop} {st0 : Store}
    (wk : WalkG K ρ0 H0 ⟨xs, gs⟩ J) (s0 : SRl ρ0 H0 δ σ) {ρ1 : List Addr} {H1 : Hp} (x1 : Ext ρ0 H0 ρ1 H1) (k1 : Ok K ρ1 st0 H1)
    (hf : ∀ σ2 H3 ρ δ2 st (Nx : Hp → Prop), Ext ρ1 H1 ρ H3 → Ok K ρ st H3 → SRl ρ H3 δ2 σ2 → wipe σ2 vs = wipe σ vs → okThen (f δ2 st) (fun st' => ∀ ρ' H', Ext ρ H3 ρ' H' → Ok K ρ' st' H' → Nx H') → tf σ2 H3 Nx)
    (h : okThen (clGo gs g c f (wipeD δ vs) xs st0) fun st' => ∀ ρ' H', Ext ρ1 H1 ρ' H' → Ok K ρ' st' H' → Fin H') :
    ∃ W : Nat → Nat → Hp → Prop, (∃ m, W 0 m H1) ∧ ∀ i m H, W i m H →
      (J.stop i H ∧ Fin H) ∨ (J.go i H ∧ ∃ Nx : Hp → Prop, (∀ H', Nx H' → ∃ m', m' < m ∧ W (i + 1) m' H') ∧ ∀ x H', J.yld i H x H' → tGGv K vs g x (wipe σ vs) H' fun σ2 H2 => wipe σ2 vs = wipe σ vs ∧ tGB K W0 c σ2 H2 fun b H3 =>
        if b = true then tf σ2 H3 Nx else Nx H3) := by
  refine ⟨fun i m H2 => i ≤ xs.length ∧ m = xs.length - i ∧ ∃ ρ2 st2, Ext ρ1 H1 ρ2 H2 ∧ Ok K ρ2 st2 H2 ∧ (okThen (clGo gs g c f (wipeD δ vs) (xs.drop i) st2) fun st' => ∀ ρ' H', Ext ρ2 H2 ρ' H' → Ok K ρ' st' H' → Fin H'), ⟨xs.length, Nat.zero_le _, by simp, ρ1, st0, .refl, k1, by simpa using h⟩, ?_⟩
  rintro i m H2 ⟨hi, rfl, ρ2, st2, e2, k2, h2⟩
  by_cases hlt : i < xs.length
  · obtain ⟨x, hx, hd⟩ := drop_cons hlt
    rw [hd] at h2
    unfold clGo at h2
    split at h2
    · rename_i gk
      obtain ⟨w1, w2, w3⟩ := wk ρ2 st2 H2 (x1.trans e2) k2 gk
      refine .inr ⟨w1 i hlt, fun H' => ∃ ρ3 st3, Ext ρ1 H1 ρ3 H' ∧ Ok K ρ3 st3 H' ∧ (okThen (clGo gs g c f (wipeD δ vs) (xs.drop (i + 1)) st3) fun st' => ∀ ρ' H'', Ext ρ3 H' ρ' H'' → Ok K ρ' st' H'' → Fin H''),
        fun H' q => ⟨xs.length - (i + 1), by omega, hlt, rfl, q⟩, fun xv H3 y => ?_⟩
      obtain ⟨x3, k3, d, hd2, r⟩ := w3 i xv H3 hlt y
      rw [hx] at hd2; cases hd2
      have s2 : SRl ρ2 H3 δ σ := s0.mono (x1.trans (e2.trans x3))
      refine ⟨ρ2, wipeD δ vs, st2, x, k3, s2.wipe vs, r, ?_⟩
      rcases good x (wipeD δ vs) st2 with ⟨δ4, st4, eg⟩ | ⟨C, fs, δ4, st4, eg⟩ | eg
      · rw [eg] at h2 ⊢
        simp only at h2
        intro ρ5 σ5 H5 x5 k5 s5 hw
        have hw' : wipe σ5 vs = wipe σ vs := hw.trans wipe_wipe
        refine ⟨hw', ρ5, δ4, st4, k5, s5, ?_⟩
        cases hcv : c δ4 st4 with
        | ok t st6 =>
          rw [hcv] at h2
          intro ρ6 H6 b6 x6 k6 eb
          subst eb
          have xx : Ext ρ2 H2 ρ6 H6 := x3.trans (x5.trans x6)
          cases t with
          | true =>
            refine iteT (hf _ _ ρ6 δ4 st6 _ (e2.trans xx) k6 (s5.mono x6) hw' ?_)
            simp only at h2
            cases hev : f δ4 st6 with
            | ok u st7 =>
              rw [hev] at h2
              simp only at h2
              intro ρ7 H7 x7 k7
              exact ⟨ρ7, st7, e2.trans (xx.trans x7), k7, okThen_imp (fun st' q ρ' H' x' k' => q ρ' H' (xx.trans (x7.trans x')) k') h2⟩
            | err C fs st7 => rw [hev] at h2; exact h2.elim
            | stuck => rw [hev] at h2; exact h2.elim
          | false =>
            exact iteF ⟨ρ6, st6, e2.trans xx, k6, okThen_imp (fun st' q ρ' H' x' k' => q ρ' H' (xx.trans x') k') h2⟩
        | err C fs st6 => rw [hcv] at h2; exact h2.elim
        | stuck => rw [hcv] at h2; exact h2.elim
      · rw [eg] at h2; exact h2.elim
      · rw [eg] at h2; exact h2.elim
    · exact h2.elim
  · have ei : i = xs.length := by omega
    subst ei
    rw [List.drop_length] at h2
    unfold clGo at h2
    split at h2
    · rename_i gk
      obtain ⟨w1, w2, w3⟩ := wk ρ2 st2 H2 (x1.trans e2) k2 gk
      exact .inl ⟨w2, h2 ρ2 H2 .refl k2⟩
    · exact h2.elim
theorem Post.unit {α : Type} {ρ : List Addr} {H : Hp} {W : WxK} {rel : List Addr → Hp → D → V → Prop} {Q : VK} {r : Res Unit} {d : D} (hne : ∀ C fs st, r = .err C fs st → False) (h : Post K ρ H W rel Q (r.bind fun _ st => .ok d st)) :
    okThen r fun st' => ∀ ρ' H' b, Ext ρ H ρ' H' → Ok K ρ' st' H' → rel ρ' H' d b → Q b H' := by
  cases r with
  | ok u st => exact h
  | err C fs st => exact (hne C fs st rfl).elim
  | stuck => exact h.elim
theorem clGo_noerr {gs : List (Nat × MO)} {g : TGM} {c : BM} {f : En → Store → Res Unit} {δ : En} : ∀ {xs : List D} {st : Store} {C fs st'}, clGo gs g c f δ xs st = .err C fs st' → False
  | [], st, C, fs, st', h => by unfold clGo at h; split at h <;> cases h
  | x :: xs, st, C, fs, st', h => by
    unfold clGo at h
    split at h
    · split at h
      · split at h
        · split at h
          · exact clGo_noerr h
          · cases h
        · exact clGo_noerr h
        · cases h
      · cases h
    · cases h
theorem tLc2_of {W : WX} {im im1 : IM} {g g1 : TGM} {c c1 : BM} {e : EM} {vs vs1 : List Nat} (good : GoodG g) (good1 : GoodG g1) {σ : St} {H : Hp} {Q : VK} (h : tG K W (lc2M im g c im1 g1 c1 e vs vs1) σ H Q) :
    tLc2 (tGI K W im) (tGGv K vs g) (tGB K W0 c) (tGI K W0 im1) (tGGv K vs1 g1) (tGB K W0 c1) (tG K W0 e) vs vs1 σ H Q := by
  obtain ⟨ρ, δ, st, k, s, h⟩ := h
  refine ⟨ρ, δ, st, k, s, (Post.bind (rel := fun ρ H it J => WalkG K ρ H it J) h).imp fun J H1 ⟨ρ1, it, st1, x1, k1, wk, h1⟩ => ?_⟩
  obtain ⟨xs, gs⟩ := it
  simp only at h1
  intro D hD
  have k2 : Ok K (ρ1 ++ [D]) (st1 ++ [.lst []]) (upd H1 D (.lst [])) := k1.new hD ⟨[], upd_same, Nat.zero_le _, .nil⟩
  have x2 : Ext ρ1 H1 (ρ1 ++ [D]) (upd H1 D (.lst [])) := Ext.new hD
  have hDn : (ρ1 ++ [D])[st1.length]? = some D := by rw [← k1.len]; simp
  have h2 := Post.unit (α := Unit) (fun _ _ _ z => clGo_noerr z) (h1.ext x2)
  refine cl_core (f := clIn im1 g1 c1 (addEl e st1.length) vs1) (tf := fun σ2 H3 Nx => tGI K W0 im1 σ2 H3 fun J1 H4 => ∃ W1 : Nat → Nat → Hp → Prop, (∃ m, W1 0 m H4) ∧ ∀ j k H, W1 j k H →
      (J1.stop j H ∧ Nx H) ∨ (J1.go j H ∧ ∃ Nx1 : Hp → Prop, (∀ H', Nx1 H' → ∃ k', k' < k ∧ W1 (j + 1) k' H') ∧ ∀ x H', J1.yld j H x H' → tGGv K vs1 g1 x (wipe σ2 vs1) H' fun σ3 H5 => wipe σ3 vs1 = wipe σ2 vs1 ∧ tGB K W0 c1 σ3 H5 fun b H6 =>
        if b = true then tG K W0 e σ3 H6 fun y H7 => ∃ acc, H7 D = some (.lst acc) ∧ acc.length < sizeLine ∧ Nx1 (upd H7 D (.lst (acc ++ [y]))) else Nx1 H6)) good wk (s.mono x1) x2 k2 (fun σ2 H3 ρ3 δ2 st3 Nx e3 k3 s3 hw hm => ?_) ?_
  · refine ⟨ρ3, δ2, st3, k3, s3, ?_⟩
    unfold clIn at hm
    cases him : im1 δ2 st3 with
    | ok it1 st4 =>
      rw [him] at hm
      simp only at hm
      intro ρ4 H4 J1 x4 k4 wk1
      obtain ⟨xs1, gs1⟩ := it1
      simp only at hm
      refine cl_core (f := addEl e st1.length) (tf := fun σ3 H6 Nx1 => tG K W0 e σ3 H6 fun y H7 => ∃ acc, H7 D = some (.lst acc) ∧ acc.length < sizeLine ∧ Nx1 (upd H7 D (.lst (acc ++ [y])))) good1 wk1 (s3.mono x4) .refl k4 (fun σ5 H6 ρ6 δ6 st6 Nx1 e6 k6 s6 hw6 hm6 => ?_) ?_
      · refine ⟨ρ6, δ6, st6, k6, s6, ?_⟩
        unfold addEl at hm6
        cases hev : e δ6 st6 with
        | ok d st7 =>
          rw [hev] at hm6
          simp only at hm6
          intro ρ7 H7 y x7 k7 r7
          have hr := x7.at (e6.at (x4.at (e3.at hDn)))
          split at hm6
          · rename_i ds hds
            split at hm6
            · rename_i hz
              obtain ⟨us, hu, hz', q⟩ := k7.lstAt hr hds
              have lq := q.length
              refine ⟨us, hu, by omega, hm6 ρ7 _ (x7.trans (Ext.wr hu fun _ z => nomatch z)) (k7.set (mo := .lst (ds ++ [d])) hds hr ⟨us ++ [y], upd_same, by rw [List.length_append]; simp; omega, ?_⟩)⟩
              exact (q.append (.cons r7 .nil)).mono (Ext.wr hu fun _ z => nomatch z)
            · exact hm6.elim
          · exact hm6.elim
        | err C fs st7 => rw [hev] at hm6; exact hm6.elim
        | stuck => rw [hev] at hm6; exact hm6.elim
      · exact okThen_imp (fun st' q ρ' H' x k => q ρ' H' (x4.trans x) k) hm
    | err C fs st4 => rw [him] at hm; exact hm.elim
    | stuck => rw [him] at hm; exact hm.elim
  · exact okThen_imp (fun st' h ρ' H' x k => h ρ' H' _ x k (.loc (x.at hDn))) h2
theorem tDc_of {W : WX} {im : IM} {g : TGM} {c : BM} {ek ev : EM} {vs : List Nat} (good : GoodG g) {σ : St} {H : Hp} {Q : VK} (h : tG K W (dcM im g c ek ev vs) σ H Q) :
    tDc (tGI K W im) (tGGv K vs g) (tGB K W0 c) (tG K W0 ek) (tG K W0 ev) vs σ H Q := by
  obtain ⟨ρ, δ, st, k, s, h⟩ := h
  refine ⟨ρ, δ, st, k, s, (Post.bind (rel := fun ρ H it J => WalkG K ρ H it J) h).imp fun J H1 ⟨ρ1, it, st1, x1, k1, wk, h1⟩ => ?_⟩
  obtain ⟨xs, gs⟩ := it
  simp only at h1
  intro D hD
  have k2 : Ok K (ρ1 ++ [D]) (st1 ++ [.dK []]) (upd H1 D (.dK [])) := k1.new hD ⟨[], upd_same, .nil⟩
  have x2 : Ext ρ1 H1 (ρ1 ++ [D]) (upd H1 D (.dK [])) := Ext.new hD
  have hDn : (ρ1 ++ [D])[st1.length]? = some D := by rw [← k1.len]; simp
  have h2 := Post.unit (α := Unit) (fun _ _ _ z => clGo_noerr z) (h1.ext x2)
  refine cl_core (f := addKV ek ev st1.length) (tf := fun σ2 H3 Nx => tG K W0 ek σ2 H3 fun y H4 => tG K W0 ev σ2 H4 fun z H5 => ∃ kvs k, y = kV k ∧ H5 D = some (.dK kvs) ∧ kvs.length < sizeLine ∧ Nx (upd H5 D (.dK (putK kvs k z)))) good wk (s.mono x1) x2 k2 (fun σ2 H3 ρ3 δ2 st3 Nx e3 k3 s3 hw hm => ?_) ?_
  · refine ⟨ρ3, δ2, st3, k3, s3, ?_⟩
    unfold addKV at hm
    cases h4 : ek δ2 st3 with
    | ok y st4 =>
      rw [h4] at hm
      simp only at hm
      intro ρ4 H4 yv x4 k4 r4
      refine ⟨ρ4, δ2, st4, k4, s3.mono x4, ?_⟩
      cases h5 : ev δ2 st4 with
      | ok d st5 =>
        rw [h5] at hm
        simp only at hm
        intro ρ5 H5 z x5 k5 r5
        have hr := x5.at (x4.at (e3.at hDn))
        split at hm
        · rename_i kvs key hds hk
          split at hm
          · rename_i hz
            · obtain ⟨ws, hw, q⟩ := k5.ob _ _ _ hds hr
              have wr : ∀ o, Ext ρ5 H5 ρ5 (upd H5 D o) := fun o => Ext.wr hw fun _ z => nomatch z
              exact ⟨ws, key, keyOf_ok hk r4, hw, by rw [← q.length]; exact hz, hm ρ5 _ (x4.trans (x5.trans (wr _))) (k5.set (mo := .dK (putD kvs key d)) hds hr ⟨_, upd_same, (q.put r5).mono (wr _)⟩)⟩
          · exact hm.elim
        · exact hm.elim
      | err C fs st5 => rw [h5] at hm; exact hm.elim
      | stuck => rw [h5] at hm; exact hm.elim
    | err C fs st4 => rw [h4] at hm; exact hm.elim
    | stuck => rw [h4] at hm; exact hm.elim
  · exact okThen_imp (fun st' h ρ' H' x k => h ρ' H' _ x k (.loc (x.at hDn))) h2
end
section
variable {X : Cx} {W : WX} {elt kx vx tg iter tg1 iter1 : Expr} {ifs ifs1 : List Expr} {scope : Scope} {own : List (Str × Nat)} {vs1 : List Nat} {pos spos py : Pos} {im im1 : IM} {g g1 : TGM} {c c1 : BM} {e ek ev : EM} {i : Nat} {y : Str}
theorem g_lc2 (hc : X.calm = true) (hN : X.N.Nodup) (hi : GI X W tg iter im) (ok : BlkOk X.N X.env.scope scope own) (hv : ∀ i ∈ vs1, i ∈ own.map (·.2))
    (hg : ∀ (s : Shared) (H : Hp) (C : Addr) (cl : List (Str × Addr)) (fp : List Addr), GGv (X.blk s H scope (compEnvC scope cl C X.env) fp) (own.map (·.2)) tg g) (good : GoodG g)
    (ht : ∀ (s : Shared) (H : Hp) (C : Addr) (cl : List (Str × Addr)) (fp : List Addr), GTs (X.blk s H scope (compEnvC scope cl C X.env) fp) ifs c)
    (hi1 : ∀ (s : Shared) (H : Hp) (C : Addr) (cl : List (Str × Addr)) (fp : List Addr), GI (X.blk s H scope (compEnvC scope cl C X.env) fp) W0 tg1 iter1 im1)
    (hg1 : ∀ (s : Shared) (H : Hp) (C : Addr) (cl : List (Str × Addr)) (fp : List Addr), GGv (X.blk s H scope (compEnvC scope cl C X.env) fp) vs1 tg1 g1) (good1 : GoodG g1)
    (ht1 : ∀ (s : Shared) (H : Hp) (C : Addr) (cl : List (Str × Addr)) (fp : List Addr), GTs (X.blk s H scope (compEnvC scope cl C X.env) fp) ifs1 c1)
    (he : ∀ (s : Shared) (H : Hp) (C : Addr) (cl : List (Str × Addr)) (fp : List Addr), GE (X.blk s H scope (compEnvC scope cl C X.env) fp) W0 elt e)
    (hs : ∀ x, foldedSetIterable iter X.env x = pure x := by intro _; rfl) (hs1 : ∀ env x, foldedSetIterable iter1 env x = pure x := by intro _ _; rfl) :
    GE X W (.ListComp elt [⟨tg, iter, ifs, 0⟩, ⟨tg1, iter1, ifs1, 0⟩] scope pos) (lc2M im g c im1 g1 c1 e (own.map (·.2)) vs1) :=
  PEw (pe_lc2 hc hN hi ok hv hg ht hi1 hg1 ht1 he hs hs1) fun _ _ _ h => tLc2_of good good1 h
theorem gs_setLc2 (hc : X.calm = true) (hN : X.N.Nodup) (hy : X.N[i]? = some y) (hyl : X.env.scope.names.lookup y = some .local)
    (hsw : swapsWith (.ListComp elt [⟨tg, iter, ifs, 0⟩, ⟨tg1, iter1, ifs1, 0⟩] scope pos) (some (.Name y py)) spos.line X.env = pure true) (hi : GI X W tg iter im) (ok : BlkOk X.N X.env.scope scope own) (hv : ∀ i ∈ vs1, i ∈ own.map (·.2))
    (hg : ∀ (s : Shared) (H : Hp) (C : Addr) (cl : List (Str × Addr)) (fp : List Addr), GGv (X.blk s H scope (compEnvC scope cl C X.env) fp) (own.map (·.2)) tg g) (good : GoodG g)
    (ht : ∀ (s : Shared) (H : Hp) (C : Addr) (cl : List (Str × Addr)) (fp : List Addr), GTs (X.blk s H scope (compEnvC scope cl C X.env) fp) ifs c)
    (hi1 : ∀ (s : Shared) (H : Hp) (C : Addr) (cl : List (Str × Addr)) (fp : List Addr), GI (X.blk s H scope (compEnvC scope cl C X.env) fp) W0 tg1 iter1 im1)
    (hg1 : ∀ (s : Shared) (H : Hp) (C : Addr) (cl : List (Str × Addr)) (fp : List Addr), GGv (X.blk s H scope (compEnvC scope cl C X.env) fp) vs1 tg1 g1) (good1 : GoodG g1)
    (ht1 : ∀ (s : Shared) (H : Hp) (C : Addr) (cl : List (Str × Addr)) (fp : List Addr), GTs (X.blk s H scope (compEnvC scope cl C X.env) fp) ifs1 c1)
    (he : ∀ (s : Shared) (H : Hp) (C : Addr) (cl : List (Str × Addr)) (fp : List Addr), GE (X.blk s H scope (compEnvC scope cl C X.env) fp) W0 elt e)
    (hs : ∀ x, foldedSetIterable iter X.env x = pure x := by intro _; rfl) (hs1 : ∀ env x, foldedSetIterable iter1 env x = pure x := by intro _ _; rfl) :
    GS X W (.Assign [.Name y py] (.ListComp elt [⟨tg, iter, ifs, 0⟩, ⟨tg1, iter1, ifs1, 0⟩] scope pos) spos) (setS i (lc2M im g c im1 g1 c1 e (own.map (·.2)) vs1)) := by
  refine PSw (ps_setLc2 (te := tG X.K W0 e) (g := tGGv X.K (own.map (·.2)) g) (tt := tGB X.K W0 c) (g1 := tGGv X.K vs1 g1) (wi1 := tGI X.K W0 im1) (tt1 := tGB X.K W0 c1) hc hN hy hyl hsw hi ok hv hg ht hi1 hg1 ht1 he hs hs1) fun Dn σ H ⟨ρ, δ, st, k, s, h⟩ => ?_
  refine tLc2_of (Q := fun x H1 => gName i x σ H1 Dn.nx) good good1 ⟨ρ, δ, st, k, s, (PostS.bindE (rel := Rl) s h).imp fun v H1 ⟨ρ1, d, st1, x, k1, r, h1⟩ => ?_⟩
  exact h1.now k1 (SRl.set (x := some d) (y := some v) r i (s.mono x))
theorem g_dc (hc : X.calm = true) (hN : X.N.Nodup) (hi : GI X W tg iter im) (ok : BlkOk X.N X.env.scope scope own)
    (hg : ∀ (s : Shared) (H : Hp) (C : Addr) (cl : List (Str × Addr)) (fp : List Addr), GGv (X.blk s H scope (compEnvC scope cl C X.env) fp) (own.map (·.2)) tg g) (good : GoodG g)
    (ht : ∀ (s : Shared) (H : Hp) (C : Addr) (cl : List (Str × Addr)) (fp : List Addr), GTs (X.blk s H scope (compEnvC scope cl C X.env) fp) ifs c)
    (hk : ∀ (s : Shared) (H : Hp) (C : Addr) (cl : List (Str × Addr)) (fp : List Addr), GE (X.blk s H scope (compEnvC scope cl C X.env) fp) W0 kx ek)
    (he : ∀ (s : Shared) (H : Hp) (C : Addr) (cl : List (Str × Addr)) (fp : List Addr), GE (X.blk s H scope (compEnvC scope cl C X.env) fp) W0 vx ev) (hs : ∀ x, foldedSetIterable iter X.env x = pure x := by intro _; rfl) :
    GE X W (.DictComp kx vx [⟨tg, iter, ifs, 0⟩] scope pos) (dcM im g c ek ev (own.map (·.2))) :=
  PEw (pe_dc hc hN hi ok hg ht hk he hs) fun _ _ _ h => tDc_of good h
theorem ps_setDc {wi : TI} {g : TG} {tt : TT} {tk tv : TE} (hc : X.calm = true) (hN : X.N.Nodup) (hy : X.N[i]? = some y) (hyl : X.env.scope.names.lookup y = some .local)
    (hsw : swapsWith (.DictComp kx vx [⟨tg, iter, ifs, 0⟩] scope pos) (some (.Name y py)) spos.line X.env = pure true) (hi : PI X tg iter wi) (ok : BlkOk X.N X.env.scope scope own)
    (hg : ∀ (s : Shared) (H : Hp) (C : Addr) (cl : List (Str × Addr)) (fp : List Addr), PG (X.blk s H scope (compEnvC scope cl C X.env) fp) tg g) (ht : ∀ (s : Shared) (H : Hp) (C : Addr) (cl : List (Str × Addr)) (fp : List Addr), PTs (X.blk s H scope (compEnvC scope cl C X.env) fp) ifs tt)
    (hk : ∀ (s : Shared) (H : Hp) (C : Addr) (cl : List (Str × Addr)) (fp : List Addr), PE (X.blk s H scope (compEnvC scope cl C X.env) fp) kx tk)
    (he : ∀ (s : Shared) (H : Hp) (C : Addr) (cl : List (Str × Addr)) (fp : List Addr), PE (X.blk s H scope (compEnvC scope cl C X.env) fp) vx tv) (hs : ∀ x, foldedSetIterable iter X.env x = pure x := by intro _; rfl) :
    PS X (.Assign [.Name y py] (.DictComp kx vx [⟨tg, iter, ifs, 0⟩] scope pos) spos) (tAsg (tDc wi g tt tk tv (own.map (·.2))) (gName i)) := by
  refine ⟨fun pins s σ H D I h => ?_⟩
  rw [exec_Assign_Name_used _ _ _ _ hsw]
  refine wpAny_bind (wpAny_standAt (wpAny_bind ?_))
  show wpAny _ X.A (do let _ ← comprehension (.DictComp kx vx [⟨tg, iter, ifs, 0⟩] scope pos) scope X.env (firstIterPos [⟨tg, iter, ifs, 0⟩] pos) newDict false (eval iter X.env) (some (assign (.Name y py) X.env))) _ _ s
  have h : tDc wi g tt tk tv (own.map (·.2)) σ H (fun x H1 => gName i x σ H1 D.nx) := h
  refine wpAny_bind (thn (dc_core (Qf := fun _ s' => SP X pins D .next s') hc hN I hi ok hg ht hk he hs h fun L C s' m H' I' q hn f => ?_) fun _ s' hq => wpAny_pure (wpAny_pure hq))
  show wpAny _ _ (assign (.Name y py) X.env (.ref L)) _ _ _
  refine wpAny_assign_Name (store_ok2 (v := V.ref L) I' hN hy (.inl hyl) rfl (fun s2 I2 ⟨a, sb, ha⟩ => ?_) (.inr hyl))
  obtain ⟨f0, f1, f2, f3, f4, f5⟩ := f
  have haC : C ≠ a := by
    rcases ha with z | z
    · rw [z]; exact f1
    · exact fun e => f4 y a z e.symm
  refine ⟨m, hn.sameBut sb haC, fun h3 sb3 => ?_⟩
  exact ⟨_, H', I2.turned (t' := s2.toks) (fun b o hb e => (sb3.2 b hb).trans e) f0 f1 f3 f4 f5, q⟩
theorem gs_setDc (hc : X.calm = true) (hN : X.N.Nodup) (hy : X.N[i]? = some y) (hyl : X.env.scope.names.lookup y = some .local)
    (hsw : swapsWith (.DictComp kx vx [⟨tg, iter, ifs, 0⟩] scope pos) (some (.Name y py)) spos.line X.env = pure true) (hi : GI X W tg iter im) (ok : BlkOk X.N X.env.scope scope own)
    (hg : ∀ (s : Shared) (H : Hp) (C : Addr) (cl : List (Str × Addr)) (fp : List Addr), GGv (X.blk s H scope (compEnvC scope cl C X.env) fp) (own.map (·.2)) tg g) (good : GoodG g)
    (ht : ∀ (s : Shared) (H : Hp) (C : Addr) (cl : List (Str × Addr)) (fp : List Addr), GTs (X.blk s H scope (compEnvC scope cl C X.env) fp) ifs c)
    (hk : ∀ (s : Shared) (H : Hp) (C : Addr) (cl : List (Str × Addr)) (fp : List Addr), GE (X.blk s H scope (compEnvC scope cl C X.env) fp) W0 kx ek)
    (he : ∀ (s : Shared) (H : Hp) (C : Addr) (cl : List (Str × Addr)) (fp : List Addr), GE (X.blk s H scope (compEnvC scope cl C X.env) fp) W0 vx ev) (hs : ∀ x, foldedSetIterable iter X.env x = pure x := by intro _; rfl) :
    GS X W (.Assign [.Name y py] (.DictComp kx vx [⟨tg, iter, ifs, 0⟩] scope pos) spos) (setS i (dcM im g c ek ev (own.map (·.2)))) := by
  refine PSw (ps_setDc (tk := tG X.K W0 ek) (tv := tG X.K W0 ev) (g := tGGv X.K (own.map (·.2)) g) (tt := tGB X.K W0 c) hc hN hy hyl hsw hi ok hg ht hk he hs) fun Dn σ H ⟨ρ, δ, st, k, s, h⟩ => ?_
  refine tDc_of (Q := fun x H1 => gName i x σ H1 Dn.nx) good ⟨ρ, δ, st, k, s, (PostS.bindE (rel := Rl) s h).imp fun v H1 ⟨ρ1, d, st1, x, k1, r, h1⟩ => ?_⟩
  exact h1.now k1 (SRl.set (x := some d) (y := some v) r i (s.mono x))
end

/-! ### dict displays of one pair -/
/-- {k: v}, k an int or a text -/
def dsp1K (mk mv : EM) : EM := fun δ st0 => (mk δ (st0 ++ [.dK []])).bind fun y st => (mv δ st).bind fun d st => match st[st0.length]?, keyOf y with
  | some (.dK []), some k => .ok (.loc st0.length) (st.set st0.length (.dK [(k, d)]))
  | _, _ => .stuck
/-- {k: v}, k a tuple -/
def dsp1T (mk mv : EM) : EM := fun δ st0 => (mk δ (st0 ++ [.dT []])).bind fun y st => (mv δ st).bind fun d st => match st[st0.length]?, keyTOf y with
  | some (.dT []), some k => .ok (.loc st0.length) (st.set st0.length (.dT [(k, d)]))
  | _, _ => .stuck
section
variable {X : Cx} {W : WX} {kx vx : Expr} {mk mv : EM} {pos : Pos}
theorem g_dsp1K (hk : GE X W kx mk) (hv : GE X W vx mv) : GE X W (.Dict [some kx] [vx] pos) (dsp1K mk mv) := by
  refine PEw (pe_disp (pps_cons hk hv pps_nil) rfl rfl (by simp) (by simp)) fun σ H Q ⟨ρ, δ, st, k, s, h⟩ => ?_
  intro p hp
  have k2 : Ok X.K (ρ ++ [p]) (st ++ [.dK []]) (upd H p (.dK [])) := k.new hp ⟨[], upd_same, .nil⟩
  have x2 : Ext ρ H (ρ ++ [p]) (upd H p (.dK [])) := Ext.new hp
  have hpn : (ρ ++ [p])[st.length]? = some p := by rw [← k.len]; simp
  refine ⟨ρ ++ [p], δ, _, k2, s.mono x2, (Post.bind (rel := Rl) (h.ext x2)).imp fun yv H1 ⟨ρ1, y, st1, x1, k1, r1, h1⟩ => ?_⟩
  refine ⟨ρ1, δ, st1, k1, s.mono (x2.trans x1), (Post.bind (rel := Rl) h1).imp fun dv H2 ⟨ρ2, d, st2, x3, k3, r3, h3⟩ => ?_⟩
  split at h3
  · rename_i key hs hk
    have hr := (x1.trans x3).at hpn
    obtain ⟨ws, hw, q⟩ := k3.ob _ _ _ hs hr
    cases q
    refine ⟨hw, [(key, dv)], by rw [keyOf_ok hk (r1.mono x3)]; rfl, by simp, ?_⟩
    have wr : ∀ o, Ext ρ2 H2 ρ2 (upd H2 p o) := fun o => Ext.wr hw fun _ z => nomatch z
    exact h3 ρ2 _ _ (wr _) (k3.set (mo := .dK [(key, d)]) hs hr ⟨_, upd_same, .cons ⟨rfl, r3.mono (wr _)⟩ .nil⟩) (.loc hr)
  · exact h3.elim
theorem g_dsp1T (hu : X.A.units + 2 < cLine) (hk : GE X W kx mk) (hv : GE X W vx mv) : GE X W (.Dict [some kx] [vx] pos) (dsp1T mk mv) := by
  refine ⟨fun pins s σ H Q I ⟨ρ, δ, st, k, s0, h⟩ => ?_⟩
  have hn := I.hok.fresh (Nat.le_refl s.heap.objs.size)
  have I1 := I.laid (a := s.heap.objs.size) (o := .dT []) (h' := s.heap.push { cls := .type "dict", data := .dict #[] }) (t' := s.toks) (fun _ _ q => Heap.get?_push_of_some _ q) (Nat.le_refl _) (dt_empty s.heap I.big)
  generalize hp0 : s.heap.objs.size = p at hn I1
  have k2 : Ok X.K (ρ ++ [p]) (st ++ [.dT []]) (upd H p (.dT [])) := k.new hn ⟨[], upd_same, .nil⟩
  have x2 : Ext ρ H (ρ ++ [p]) (upd H p (.dT [])) := Ext.new hn
  have hpn : (ρ ++ [p])[st.length]? = some p := by rw [← k.len]; simp
  have room : (tupleKind (mixKind X.prog X.w)).room X.A := show X.A.units < cLine by omega
  have hpl := pairTrees_length [some kx] [vx] X.env pos rfl rfl
  rw [arm_eval_Dict, zip_pairTrees _ _ X.env pos rfl rfl, dictDisplay_pairs _ (by intro z; rw [z] at hpl; cases hpl) (by rw [hpl]; simp)]
  refine wpAny_bind (wpAny_standAt (wpAny_bind (wpAny_subDictH (knd := tupleKind (mixKind X.prog X.w)) (Q := fun d s' => wpAny (model X.prog X.w) X.A (pure (Value.ref d)) (EP X pins σ Q) X.xe s') room (by rw [hpl]; simp) ?_)))
  refine thn ((pps_cons hk hv pps_nil).run pins _ σ _ (fun ps H2 => ∃ ρ2 st2 yv dv y d, Ok X.K ρ2 st2 H2 ∧ Ext (ρ ++ [p]) (upd H p (.dT [])) ρ2 H2 ∧ ps = [(yv, dv)] ∧ Rl ρ2 H2 y yv ∧ Rl ρ2 H2 d dv ∧ Post X.K ρ2 H2 (fun c d => W c d σ) Rl Q (match st2[st.length]?, keyTOf y with
      | some (.dT []), some k => .ok (.loc st.length) (st2.set st.length (.dT [(k, d)]))
      | _, _ => .stuck)) I1 ?_) fun ws s2 ⟨ps, H2, I2, rel, ρ2, st2, yv, dv, y, d, k3, x3, e, ry, rd, h3⟩ => ?_
  · refine ⟨ρ ++ [p], δ, _, k2, s0.mono x2, (Post.bind (rel := Rl) (h.ext x2)).imp fun yv H1 ⟨ρ1, y, st1, x1, k1, r1, h1⟩ => ?_⟩
    refine ⟨ρ1, δ, st1, k1, s0.mono (x2.trans x1), (Post.bind (rel := Rl) h1).imp fun dv H2 ⟨ρ2, d, st2, x3, k3, r3, h3⟩ => ?_⟩
    exact ⟨ρ2, st2, yv, dv, y, d, k3, x1.trans x3, rfl, r1.mono x3, r3, h3⟩
  · subst e
    split at h3
    · rename_i key hs hk
      have hr := x3.at hpn
      obtain ⟨ws', hw, q⟩ := k3.ob _ _ _ hs hr
      cases q
      cases ry with
      | tup hb hzb ql =>
        rename_i b _
        simp only [keyTOf] at hk
        cases rel with
        | @cons a0 vv as0 bs0 rr tt =>
          cases tt
          obtain ⟨v1, v2⟩ := vv
          obtain ⟨rr1, rr2⟩ := rr
          cases (show v1 = Value.ref _ from rr1)
          have eb : H2 b = some (.tup (key.map kV)) := by rw [hb, keysOf_ok hk ql]
          obtain ⟨z, hd, xs, rel2, dd⟩ := dt_of I2.hok hw
          cases rel2
          refine ⟨[(key, b, v2)], ⟨rfl, rfl, key_of I2.hok eb, True.intro⟩, by rw [hp0]; exact dd, fun h' tk dd' hs' => ?_⟩
          rw [hp0] at dd' hs' ⊢
          obtain ⟨ob, es, ep, hq, y2, y3, y4, _, y5⟩ := dd'
          have wr : ∀ o, Ext ρ2 H2 ρ2 (upd H2 p o) := fun o => Ext.wr hw fun _ z => nomatch z
          have rdd : RelV dv v2 := rr2
          have kt : KT (upd H2 p (.dT [(key, dv)])) [(key, dv)] [(key, b, v2)] := .cons ⟨rfl, (by show upd H2 p _ b = _; rw [upd_ne (ne_of eb hw (fun z => nomatch z))]; exact eb), rdd⟩ .nil
          exact wpAny_pure ⟨.ref p, upd H2 p (.dT [(key, dv)]), d_write (t' := tk) I2 (by rw [hw]; exact True.intro) hs' ⟨ob, hq⟩ ⟨by rw [sizeLine_eq]; simp, hd, _, kt, ob, es, ep, hq, y2, y3, y4, y5⟩, rfl,
            h3 ρ2 _ _ (wr _) (k3.set (mo := .dT [(key, d)]) hs hr ⟨_, upd_same, .cons ⟨rfl, rd.mono (wr _)⟩ .nil⟩) (.loc hr)⟩
      | _ => simp [keyTOf] at hk
    · exact h3.elim
end
end Fx
/-! Fx9: sorting, repr, isinstance with several classes, sets' sizes, tuple times int. -/
namespace PySem.W
open PySem PySem.Calls PyProof.Rows PySem.SeqAt
section
variable {prog : Program} {w : World} {A : Around} {E : Value → Shared → Prop} {s : Shared}
theorem fx_call_tuple_lt {Q : Value → Shared → Prop} {l b : Addr} {items items2 : Array Value} {e r : Nat → Bool} (hl : s.heap.IsTuple l items) (hb : s.heap.IsTuple b items2)
    (he : ∀ j (h1 : j < items.size) (h2 : j < items2.size), EqAt A.in1 s items[j] items2[j] (e j)) (hr : ∀ j (h1 : j < items.size) (h2 : j < items2.size), e j = false → RcLt A.in1 s items[j] items2[j] (r j))
    (h : Q (.bool (firstLt e r (decide (items.size < items2.size)) (List.range (min items.size items2.size)))) s) : wpAny (model prog w) A (call (.builtin "tuple.__lt__") [.ref l, .ref b]) Q E s := by
  obtain ⟨⟨cls, dd, data, sl⟩, ho, hc, n, hd⟩ := id hl
  obtain ⟨⟨cls2, dd2, data2, sl2⟩, ho2, hc2, n2, hd2⟩ := id hb
  simp only at hc hd hc2 hd2
  subst hc hd hc2 hd2
  exact call_meets F.slot_tuple_lt ⟨_, ho, rfl⟩ F.entry_tuple_lt (F.args_tuple_lt_2 _ _) (tuple_ltAt l b items items2 n n2 dd dd2 sl sl2 e r) ⟨ho, ho2, he, hr, h⟩
theorem fx_oneLt_tuple {f : Bool} {xs ys : List PyData} {a b : Value} {as bs : List Addr} {Q : Bool → Shared → Prop} (ra : Reads s.heap a (.tuple xs) as) (rb : Reads s.heap b (.tuple ys) bs) (h : alike (.tuple xs) (.tuple ys) = true)
    (hu : A.units + min (PyData.depth (.tuple xs)) (PyData.depth (.tuple ys)) < cLine) (hq : Q (dataLt (.tuple xs) (.tuple ys)) s) : wpAny (model prog w) A (oneLt' f a b) Q E s := by
  cases f with
  | false =>
    rw [oneLt'_eq]
    simp only [Bool.false_eq_true, if_false]
    exact wpAny_bind (rcLt_alike _ _ A s a b as bs ra rb h (by simp) hu prog w E _ (wpAny_truthy_bool hq))
  | true =>
    have hal : alikeAll xs ys = true := by simpa [alike] using h
    cases ra with
    | @tuple l o vs n _ as₁ h1 h2 h3 h4 =>
      cases rb with
      | @tuple l' o' vs' n' _ bs₁ k1 k2 k3 k4 =>
        have n1 : vs.size = xs.length := by simpa using ReadsAll.length _ _ _ h4
        have n2 : vs'.size = ys.length := by simpa using ReadsAll.length _ _ _ k4
        rw [dataLt_tuple, ← firstLt_toks xs ys hal, ← n1, ← n2] at hq
        rw [oneLt'_eq]
        simp only [if_true]
        refine wpAny_bind (wpAny_cRoomFor (room_here hu) ?_)
        refine wpAny_bind (wpAny_callSpecialIfBound?_slot (T := "tuple") ⟨_, h1, h2⟩ F.slot_tuple_lt (fx_call_tuple_lt (e := pairEq xs ys) (r := fun j => dataLt (xs.getD j .none) (ys.getD j .none)) ⟨_, h1, h2, _, h3⟩ ⟨_, k1, k2, _, k3⟩ (fun j j1 j2 => ?_) (fun j j1 j2 hj => ?_) ?_))
        · have := eqAt_alikeAll xs ys A.in1 s vs.toList vs'.toList _ _ h4 k4 hal (room_in hu) j (by simpa using j1) (by simpa using j2)
          simpa using this
        · have := rcLt_alikeAll xs ys A.in1 s vs.toList vs'.toList _ _ h4 k4 hal (room_in hu) j (by simpa using j1) (by simpa using j2) hj
          simpa using this
        · exact wpAny_truthy_bool hq
def isT0 : PyData → Bool
  | .tuple [] => true
  | _ => false
/-- the first items of tuples, some of them empty -/
theorem fx_mapM_first : ∀ {vs : List Value} {ds : List PyData} {Q : List (Option Value) → Shared → Prop}, EachIs (fun v d => ∃ as, Reads s.heap v d as) vs ds → (∀ d ∈ ds, ∃ xs, d = .tuple xs) →
    (∀ os : List (Option Value), os.map (·.isSome) = ds.map (fun d => !isT0 d) → Q os s) → wpAny (model prog w) A (vs.mapM firstOfTuple') Q E s
  | _, _, Q, .nil, _, h => by rw [List.mapM_nil]; exact wpAny_pure (h [] rfl)
  | v :: vs, d :: ds, Q, .cons ⟨as, r⟩ t, ht, h => by
    rw [List.mapM_cons]
    obtain ⟨xs, rfl⟩ := ht d (List.mem_cons_self ..)
    refine wpAny_bind ?_
    cases r with
    | @tuple a o items n _ _ ho hc hd hr =>
      rw [kas_first_eq]
      refine wpAny_bind ((looks_reads (.tuple ho hc hd hr)).here ?_)
      rw [if_neg (by simp [dataType])]
      refine wpAny_bind (listItems_at ho hd (wpAny_pure ?_))
      refine wpAny_bind (fx_mapM_first (vs := vs) t (fun d hd => ht d (List.mem_cons_of_mem _ hd)) fun os ho2 => wpAny_pure (h _ ?_))
      rw [List.map_cons, List.map_cons, ho2]
      have n1 : items.size = xs.length := by simpa using ReadsAll.length _ _ _ hr
      cases xs with
      | nil =>
        have : items[0]? = none := by simp at n1; simp [n1]
        rw [this]; rfl
      | cons x xs =>
        have hlt : 0 < items.size := by rw [n1]; simp
        have : items[0]? = some items[0] := by simp [hlt]
        rw [this]; rfl
theorem fx_mapM_type {T : Value} {vs : List Value} {Q : List Value → Shared → Prop} (hT : ∀ v ∈ vs, Looks (model prog w) s.heap (typeOf v) T) (h : Q (vs.map fun _ => T) s) : wpAny (model prog w) A (vs.mapM typeOf) Q E s :=
  kas_mapM (r := T) vs (fun v hv Q' hq => (hT v hv).here hq) h
theorem fx_kind {vs : List Value} {d : PyData} {ds : List PyData} {Q : SortKind → Shared → Prop} (e : EachIs (fun v d => ∃ as, Reads s.heap v d as) vs (d :: ds)) (ht : ∀ x ∈ d :: ds, ∃ xs, x = .tuple xs) (hm : (d :: ds).any isT0 = true)
    (hq : Q (if isT0 d = true then oneType' else general') s) : wpAny (model prog w) A (keyKind' vs.toArray) Q E s := by
  rw [keyKind'_eq, List.mapM_toArray, map_eq_pure_bind]
  refine wpAny_bind (wpAny_bind (fx_mapM_first e ht fun os ho => wpAny_pure ?_))
  have hna : os.toArray.all (·.isSome) = false := by
    have e1 : os.all (·.isSome) = (os.map (·.isSome)).all id := by simp [List.all_map]
    rw [List.all_toArray, e1, ho]
    rw [List.any_eq_true] at hm
    obtain ⟨x, hx, q⟩ := hm
    rw [List.all_map, List.all_eq_false]
    exact ⟨x, hx, by simp [q]⟩
  rw [if_neg (by rw [hna]; simp)]
  have h0 : (os.toArray[0]?.bind id).isSome = !isT0 d := by
    cases os with
    | nil => cases ho
    | cons o os =>
      rw [List.map_cons, List.map_cons] at ho
      injection ho with q _
  rw [h0]
  cases hd : isT0 d with
  | false =>
    rw [hd] at hq
    exact wpAny_pure hq
  | true =>
    rw [hd] at hq
    rw [if_neg (by simp), oneTypeOnly'_eq, List.mapM_toArray, map_eq_pure_bind]
    have hT : ∀ v ∈ vs, Looks (model prog w) s.heap (typeOf v) (Value.type "tuple") := fun v hv => by
      obtain ⟨x, hx, as, r⟩ := e.left v hv
      obtain ⟨xs, rfl⟩ := ht x hx
      exact looks_reads r
    refine wpAny_bind (wpAny_bind (wpAny_bind (fx_mapM_type (T := Value.type "tuple") hT (wpAny_pure ?_))))
    cases e with
    | @cons v _ vs' _ r t =>
      have hall : ((List.map (fun _ => Value.type "tuple") (v :: vs')).toArray.all fun x => x == Value.type "tuple") = true := by
        simp only [List.all_toArray, List.all_map, List.all_eq_true]
        intro _ _
        exact beq_self_eq_true _
      have h1 : (List.map (fun _ => Value.type "tuple") (v :: vs')).toArray[0]? = some (Value.type "tuple") := by simp
      rw [h1]
      simp only [hall, if_true]
      exact wpAny_pure (wpAny_pure hq)
/-- tuples, some of them empty, can be sorted -/
theorem fx_sortsAt {vs : List Value} {ds : List PyData} (e : EachIs (fun v d => ∃ as, Reads s.heap v d as) vs ds) (hal : AllAlike ds) (ht : ∀ d ∈ ds, ∃ xs, d = .tuple xs) (hm : ds.any isT0 = true) (hu : ∀ d, d ∈ ds → A.units + d.depth < cLine) : SortsAt prog w A s (dataKind s.heap ds) vs := by
  refine ⟨fun v hv => ?_, ?_⟩
  · obtain ⟨d, hd, as, r⟩ := e.left v hv
    exact ⟨_, dataKind_some hal hd r⟩
  · cases ds with
    | nil => exact absurd hm (by simp)
    | cons d ds =>
      refine ⟨if isT0 d = true then oneType' else general', fun E x y a b Q ha hb hq => ?_, fun _ E Q hq => fx_kind e ht hm hq⟩
      obtain ⟨d1, as, hd, ra, rfl⟩ := dataKind_inv ha
      obtain ⟨d2, as', hd', rb, rfl⟩ := dataKind_inv hb
      obtain ⟨x1, rfl⟩ := ht d1 hd
      obtain ⟨x2, rfl⟩ := ht d2 hd'
      have room : A.units + min (PyData.depth (.tuple x1)) (PyData.depth (.tuple x2)) < cLine := Nat.lt_of_le_of_lt (Nat.add_le_add_left (Nat.min_le_left _ _) _) (hu _ hd)
      cases isT0 d with
      | true => exact fx_oneLt_tuple (f := true) ra rb (hal _ hd _ hd') room hq
      | false => exact fx_oneLt_tuple (f := false) ra rb (hal _ hd _ hd') room hq
/-- what can be sorted -/
def fxSortable (ds : List PyData) : Bool := (ds.all fun d => match d with
    | .tuple _ => true
    | _ => false) || ds.all fun d => match d with
    | .none => false
    | .tuple _ => false
    | _ => true
theorem fx_sortsAny {vs : List Value} {ds : List PyData} (e : EachIs (fun v d => ∃ as, Reads s.heap v d as) vs ds) (hal : AllAlike ds) (hk : fxSortable ds = true) (hu : ∀ d, d ∈ ds → A.units + d.depth < cLine) : SortsAt prog w A s (dataKind s.heap ds) vs := by
  unfold fxSortable at hk
  rcases Bool.or_eq_true_iff.mp hk with h | h
  · have ht : ∀ d ∈ ds, ∃ xs, d = .tuple xs := fun d hd => by
      have := List.all_eq_true.mp h d hd
      cases d <;> simp at this
      exact ⟨_, rfl⟩
    by_cases hm : ds.any isT0 = true
    · exact fx_sortsAt e hal ht hm hu
    · refine SortsAt.data e hal (.inl fun d hd => ?_) hu
      obtain ⟨xs, rfl⟩ := ht d hd
      cases xs with
      | nil => exact absurd (List.any_eq_true.mpr ⟨_, hd, rfl⟩) hm
      | cons x r => exact ⟨x, r, rfl⟩
  · refine SortsAt.data e hal (.inr fun d hd => ?_) hu
    have := List.all_eq_true.mp h d hd
    cases d <;> simp at this <;> simp
/-- sorted(xs) -/
theorem fx_sorted {β : Type} {vs : List Value} {bs : List β} {enc : β → PyData} {R : Value → β → Prop} {l : Addr} {Q : Value → Shared → Prop} (hl : s.heap.IsList l vs.toArray) (e : EachIs R vs bs) (er : EachIs (fun v b => ∃ as, Reads s.heap v (enc b) as) vs bs) (hal : AllAlike (bs.map enc)) (hk : fxSortable (bs.map enc) = true) (hL : bs.length ≤ sizeLine)
    (hu : ∀ b, b ∈ bs → A.units + 2 + (enc b).depth < cLine) (h : ∀ out, out.length = bs.length → EachIs R out (bs.mergeSort (dataLe false enc)) → Q (.ref (s.heap.objs.size + 1)) { s with heap := sortedAll s.heap vs (List.toArray out) }) :
    wpAny (model prog w) A (call (.builtin "sorted") [.ref l]) Q E s := by
  have er' : EachIs (fun v b => ∃ as, Reads (sortingHeap (copyHeap s.heap vs) (s.heap.objs.size + 1) vs) v (enc b) as) vs bs := er.mono fun _ _ ⟨as, r⟩ => ⟨as, PyProof.Rows.Reads.keeps (fun _ _ => sorting_copy_old) r⟩
  exact sorted_vals hl (fx_sortsAny (s := { s with heap := sortingHeap (copyHeap s.heap vs) (s.heap.objs.size + 1) vs }) (each_map (R := fun v d => ∃ as, Reads (sortingHeap (copyHeap s.heap vs) (s.heap.objs.size + 1) vs) v d as) enc er') hal hk (bound_map hu)) (by rw [e.length]; exact hL)
    (h _ (by rw [sortVals_length false rfl]; exact e.length) (sortVals_data false e er' hal))
end
end PySem.W
/-! Fx10: the rules of Fx9 as mirrors. -/
namespace Fx
open PySem PySem.Spec PyProof.Rows L2

/-! ### sorted -/
section
variable {X : Cx}
def sortVL (vs : List V) (ds : List PyData) : List V := ((vs.zip ds).mergeSort (PySem.W.dataLe false (·.2))).map (·.1)
abbrev rSortG (K : PySem.W.Frag) : List V → Hp → VK → Prop := fun vs H Q => ∃ (a : Addr) (xs : List V) (ds : List PyData), vs = [V.ref a] ∧ SqL K H a xs ∧ DpAll K H xs ds ∧ PySem.W.AllAlike ds ∧ PySem.W.fxSortable ds = true ∧ (∀ d ∈ ds, d.depth ≤ 64) ∧ xs.length ≤ sizeLine ∧
  ∀ p, H p = none → Q (.ref p) (upd H p (.lst (sortVL xs ds)))
theorem each_of_dp {pins : List (Addr × Obj)} {σ : St} {H : Hp} {s : Shared} (I : Inv X pins σ H s) : ∀ {xs : List V} {us : List Value} {ds : List PyData}, Vals xs us → DpAll X.K H xs ds →
    PySem.W.EachIs (fun u (b : V × PyData) => RelV b.1 u ∧ ∃ as, Reads s.heap u b.2 as) us (xs.zip ds) ∧ (xs.zip ds).map (·.2) = ds
  | _, _, _, .nil, .nil => ⟨.nil, rfl⟩
  | _, _, _, .cons r t, .cons d ds => by
    obtain ⟨h1, h2⟩ := each_of_dp I t ds
    exact ⟨.cons ⟨r, Dp.reads I _ _ _ d r⟩ h1, by rw [List.zip_cons_cons, List.map_cons, h2]⟩
theorem vals_of_each : ∀ {out : List Value} {bs : List (V × PyData)} {P : Value → V × PyData → Prop}, PySem.W.EachIs P out bs → (∀ u b, P u b → RelV b.1 u) → Vals (bs.map (·.1)) out
  | _, _, _, .nil, _ => .nil
  | _, _, _, .cons r t, h => .cons (h _ _ r) (vals_of_each t h)
theorem cr_sortG (hu : X.A.units + 66 < cLine) : CallR X (.builtin "sorted") (rSortG X.K) := by
  intro pins s σ H vs us Q I r h
  obtain ⟨a, xs, ds, rfl, hs, hd, hal, hk, hdep, hz, q⟩ := h
  obtain ⟨its, rv, hl, _⟩ := I.list hs
  rw [Vals.ref1 r]
  obtain ⟨e1, e2⟩ := each_of_dp I rv hd
  have hlen : (xs.zip ds).length = xs.length := by
    have h1 := e1.length
    have h2 := rv.length
    omega
  have hz2 : xs.length = its.length := rv.length
  refine PySem.W.fx_sorted (enc := fun b : V × PyData => b.2) (bs := xs.zip ds) (R := fun u b => RelV b.1 u ∧ ∃ as, Reads s.heap u b.2 as) hl.isList e1 (e1.mono fun _ _ z => z.2) (by rw [e2]; exact hal) (by rw [e2]; exact hk) (by rw [hlen]; exact hz) (fun b hb => ?_) fun out hlo eo => ?_
  · have := hdep b.2 (by rw [← e2]; exact List.mem_map.mpr ⟨b, hb, rfl⟩)
    show X.A.units + 2 + b.2.depth < cLine
    omega
  · obtain ⟨ep, he'⟩ := PyProof.Rows.sortedAll_at s.heap its (List.toArray out)
    have hv : Vals (sortVL xs ds) out := vals_of_each eo fun _ _ z => z.1
    have hln : (sortVL xs ds).length ≤ sizeLine := by
      unfold sortVL
      rw [List.length_map, List.length_mergeSort, hlen]; exact hz
    exact ⟨.ref _, upd H (s.heap.objs.size + 1) (.lst (sortVL xs ds)), I.laid (t' := s.toks) (fun _ _ => PyProof.Rows.sortedAll_old) (Nat.le_succ _) ⟨hln, out, ep, hv, he'⟩, rfl, q _ (I.hok.fresh (Nat.le_succ _))⟩
end
theorem RlL.zip {ρ : List Addr} {H : Hp} {γ : Type} : ∀ {ds : List D} {vs : List V} (ps : List γ), RlL ρ H ds vs → ∀ t ∈ ds.zip (vs.zip ps), Rl ρ H t.1 t.2.1
  | _, _, [], _, t, h => by simp at h
  | _, _, _, .nil, t, h => by simp at h
  | _, _, p :: ps, .cons r q, t, h => by
    rw [List.zip_cons_cons, List.zip_cons_cons] at h
    rcases List.mem_cons.mp h with e | h
    · subst e; exact r
    · exact RlL.zip ps q t h
theorem RlL.ofPairs {ρ : List Addr} {H : Hp} {γ : Type} : ∀ {L : List (D × V × γ)}, (∀ t ∈ L, Rl ρ H t.1 t.2.1) → RlL ρ H (L.map (·.1)) (L.map (·.2.1))
  | [], _ => .nil
  | t :: L, h => .cons (h t (List.mem_cons_self ..)) (RlL.ofPairs fun u hu => h u (List.mem_cons_of_mem _ hu))
def sortDL (xs : List D) (ps : List PyData) : List D := ((xs.zip ps).mergeSort (PySem.W.dataLe false (·.2))).map (·.1)
theorem zip_fst3 {α β γ : Type} : ∀ {xs : List α} {vs : List β} {ps : List γ}, xs.length = vs.length → (xs.zip (vs.zip ps)).map (fun t => (t.1, t.2.2)) = xs.zip ps
  | [], [], _, _ => rfl
  | _ :: _, _ :: _, [], _ => rfl
  | _ :: _, _ :: _, _ :: _, h => by
    rw [List.zip_cons_cons, List.zip_cons_cons, List.map_cons, zip_fst3 (by simpa using h)]; rfl
theorem zip_snd3 {α β γ : Type} : ∀ {xs : List α} {vs : List β} {ps : List γ}, xs.length = vs.length → (xs.zip (vs.zip ps)).map (fun t => t.2) = vs.zip ps
  | [], [], _, _ => rfl
  | _ :: _, _ :: _, [], _ => rfl
  | _ :: _, _ :: _, _ :: _, h => by
    rw [List.zip_cons_cons, List.zip_cons_cons, List.map_cons, zip_snd3 (by simpa using h)]
theorem sortDL_rl {ρ : List Addr} {H : Hp} {xs : List D} {vs : List V} (ps : List PyData) (q : RlL ρ H xs vs) : RlL ρ H (sortDL xs ps) (sortVL vs ps) := by
  have hl := q.length
  have h1 : sortDL xs ps = ((xs.zip (vs.zip ps)).mergeSort (PySem.W.dataLe false (·.2.2))).map (·.1) := by
    unfold sortDL
    rw [← zip_fst3 hl, ← List.map_mergeSort (r := PySem.W.dataLe false (fun t : D × V × PyData => t.2.2)) (s := PySem.W.dataLe false (fun t : D × PyData => t.2)) (f := fun t : D × V × PyData => (t.1, t.2.2)) (fun a _ b _ => rfl), List.map_map]
    rfl
  have h2 : sortVL vs ps = ((xs.zip (vs.zip ps)).mergeSort (PySem.W.dataLe false (·.2.2))).map (·.2.1) := by
    unfold sortVL
    have e := List.map_mergeSort (r := PySem.W.dataLe false (fun t : D × V × PyData => t.2.2)) (s := PySem.W.dataLe false (fun t : V × PyData => t.2)) (f := fun t : D × V × PyData => t.2) (l := xs.zip (vs.zip ps)) (fun a _ b _ => rfl)
    rw [zip_snd3 hl] at e
    rw [← e, List.map_map]
    rfl
  rw [h1, h2]
  exact RlL.ofPairs fun t ht => RlL.zip ps q t (List.mem_mergeSort.mp ht)
def alikeB (ds : List PyData) : Bool := ds.all fun d => ds.all fun d' => PySem.W.alike d d'
def sortedV : CM := fun ds st => match ds with
  | [.loc l] => match st[l]? with
    | some (.lst xs) => match optAll (pyD st 65) xs with
      | some ps => if alikeB ps = true ∧ PySem.W.fxSortable ps = true ∧ (ps.all fun d => decide (d.depth ≤ 64)) = true then .ok (.loc st.length) (st ++ [.lst (sortDL xs ps)]) else .stuck
      | none => .stuck
    | _ => .stuck
  | _ => .stuck
theorem pyAll_ok {K : PySem.W.Frag} {ρ : List Addr} {st : Store} {H : Hp} (k : Ok K ρ st H) (n : Nat) : ∀ {ds : List D} {vs : List V} {ps : List PyData}, optAll (pyD st n) ds = some ps → RlL ρ H ds vs → DpAll K H vs ps := by
  intro ds
  induction ds with
  | nil => intro vs ps e q; cases e; cases q; exact .nil
  | cons d ds ih =>
    intro vs ps e q
    cases q with
    | cons r q =>
      unfold optAll at e
      split at e
      · rename_i a r' e1 e2
        cases e
        exact .cons (pyD_ok k n e1 r) (ih e2 q)
      · cases e
theorem sortedV_ok {K : PySem.W.Frag} : CallG K sortedV (rSortG K) := by
  intro ρ st H ds vs Wx Q k q h
  unfold sortedV at h
  split at h
  · split at h
    · rename_i xs hs
      split at h
      · rename_i ps hp
        split at h
        · rename_i hc
          cases q with
          | cons r1 q1 =>
            cases q1
            cases r1 with
            | loc hr =>
              obtain ⟨us, hv, hz', q2⟩ := k.lstAt hr hs
              have hln : (sortVL us ps).length ≤ sizeLine := by
                unfold sortVL
                rw [List.length_map, List.length_mergeSort, List.length_zip]; omega
              refine ⟨_, us, ps, rfl, SqL.of hv, pyAll_ok k _ hp q2, fun d hd d' hd' => ?_, hc.2.1, fun d hd => of_decide_eq_true (List.all_eq_true.mp hc.2.2 d hd), hz', Post.newLst k (sortDL_rl ps q2) hln h⟩
              exact List.all_eq_true.mp (List.all_eq_true.mp hc.1 d hd) d' hd'
        · exact h.elim
      · exact h.elim
    · exact h.elim
  · exact h.elim
/-! ### repr of ints and bools -/
def reprIV : CM := fun ds st => match ds with
  | [.int i] => if i.natAbs.log2 < 1920 then .ok (.str (toString i)) st else .stuck
  | [.bl b] => .ok (.str (if b then "True" else "False")) st
  | _ => .stuck
theorem cr_reprI {X : Cx} : CallR X (.builtin "repr") (fun xs H Q => (∃ i, xs = [.int i] ∧ i.natAbs.log2 < 1920 ∧ Q (.str (toString i)) H) ∨ ∃ b, xs = [.bl b] ∧ Q (.str (if b then "True" else "False")) H) := by
  intro pins s σ H xs us Q I r h
  rcases h with ⟨i, rfl, hz, q⟩ | ⟨b, rfl, q⟩
  · obtain ⟨u, rfl, t, rfl⟩ := vals1 r
    exact PySem.P.repr_of_int hz ⟨.str _, H, I.tok _, ⟨_, rfl⟩, q⟩
  · obtain ⟨u, rfl, rfl⟩ := vals1 r
    exact PySem.P.repr_of_bool ⟨.str _, H, I.tok _, ⟨_, rfl⟩, q⟩
theorem reprIV_ok {K : PySem.W.Frag} : CallG K reprIV (fun xs H Q => (∃ i, xs = [.int i] ∧ i.natAbs.log2 < 1920 ∧ Q (.str (toString i)) H) ∨ ∃ b, xs = [.bl b] ∧ Q (.str (if b then "True" else "False")) H) := by
  intro ρ st H ds vs Wx Q k q h
  unfold reprIV at h
  split at h
  · split at h
    · rename_i hz
      cases q with
      | cons r1 q1 => cases q1; cases r1; exact .inl ⟨_, rfl, hz, h.now k .str⟩
    · exact h.elim
  · cases q with
    | cons r1 q1 => cases q1; cases r1; exact .inr ⟨_, rfl, h.now k .str⟩
  · exact h.elim
/-! ### list(d), d a dict with tuple keys; else as before -/
def listDV : CM := fun ds st => match ds with
  | [.loc l] => match st[l]? with
    | some (.dT kvs) => if (kvs.all fun p => decide (p.1.length ≤ sizeLine)) = true ∧ kvs.length ≤ sizeLine then .ok (.loc st.length) (st ++ [.lst (kvs.map fun p => kTD p.1)]) else .stuck
    | _ => .stuck
  | _ => .stuck
theorem isKeys_rl {ρ : List Addr} {H : Hp} : ∀ {kvs : List (List Key × D)} {ws : List (List Key × V)} {bs : List Addr}, KRl ρ H kvs ws → IsKeys H ws bs → (kvs.all fun p => decide (p.1.length ≤ sizeLine)) = true → RlL ρ H (kvs.map fun p => kTD p.1) (bs.map V.ref)
  | _, _, _, .nil, .nil, _ => .nil
  | _, _, _, .cons r t, .cons h hs, hz => by
    rw [List.all_cons, Bool.and_eq_true] at hz
    refine .cons (.tup (by rw [h, ← r.1]) (by simpa using of_decide_eq_true hz.1) (RlL.keys _)) (isKeys_rl t hs hz.2)
theorem listDV_ok {K : PySem.W.Frag} : CallG K listDV (fun xs H Q => ∃ d kvs, xs = [V.ref d] ∧ Rd H d (.dT kvs) ∧ ∀ p bs, H p = none → IsKeys H kvs bs → Q (.ref p) (upd H p (.lst (bs.map V.ref)))) := by
  intro ρ st H ds vs Wx Q k q h
  unfold listDV at h
  split at h
  · split at h
    · rename_i kvs hs
      split at h
      · rename_i hz
        cases q with
        | cons r1 q1 =>
          cases q1
          cases r1 with
          | loc hr =>
            obtain ⟨ws, hw, q2⟩ := k.ob _ _ _ hs hr
            refine ⟨_, ws, rfl, .inl hw, fun p bs hp hb => ?_⟩
            have rl := isKeys_rl q2 hb hz.1
            have hl := rl.length
            simp only [List.length_map] at hl
            exact Post.newLst k rl (by rw [List.length_map]; omega) h p hp
      · exact h.elim
    · exact h.elim
  · exact h.elim
def orC (f g : CM) : CM := fun ds st => match f ds st with
  | .stuck => g ds st
  | r => r
theorem orC_ok {K : PySem.W.Frag} {f g : CM} {r r' : List V → Hp → VK → Prop} (hf : CallG K f r) (hg : CallG K g r') : CallG K (orC f g) (fun vs H Q => r vs H Q ∨ r' vs H Q) := by
  intro ρ st H ds vs Wx Q k q h
  unfold orC at h
  split at h
  · exact .inr (hg _ _ _ _ _ _ _ k q h)
  · exact .inl (hf _ _ _ _ _ _ _ k q h)
/-! ### isinstance(x, (A, B)) -/
def kitAnyB (t : String) : List String → Option Bool
  | [] => some false
  | c :: r => match kitB t c with
    | some true => some true
    | some false => kitAnyB t r
    | none => none
theorem kitAnyB_ok {K : PySem.W.Frag} {t : String} : ∀ {cs : List String} {b : Bool}, kitAnyB t cs = some b → PySem.W.kitAny K (.type t) (cs.map Value.type) = some b
  | [], _, h => h
  | c :: r, b, h => by
    unfold kitAnyB at h
    split at h
    · rename_i e
      cases h
      exact kitAny_cons (kit_ty e) (fun z => nomatch z) (fun _ => rfl)
    · rename_i e
      exact kitAny_cons (kit_ty e) (fun _ => kitAnyB_ok h) (fun z => nomatch z)
    · cases h
@[simp] def isi2M (T1 T2 : String) (m : EM) : EM := fun δ st => (m δ st).bind fun d st => match d.tyOf st with
  | some t => match kitAnyB t [T1, T2] with
    | some b => .ok (.bl b) st
    | none => .stuck
  | none => .stuck
theorem TyX.newTup {K : PySem.W.Frag} {ρ : List Addr} {st : Store} {H : Hp} {d : D} {v : V} {t : String} {p : Addr} {o : HO} (k : Ok K ρ st H) (r : Rl ρ H d v) (e : d.tyOf st = some t) (hp : H p = none) : TyX K (upd H p o) v (.type t) := tyOf_ok (k.tup hp) (r.mono (Ext.tup hp)) e
section
variable {X : Cx} {W : WX} {e : Expr} {m : EM} {am : AM} {p p1 p2 tp pos : Pos} {kk : Nat}
theorem g_isi2 {x1 x2 : Str} {T1 T2 : String} (hg : Gl X "isinstance") (hm : X.mg "isinstance" = none) (hg1 : Gl X x1) (hm1 : X.mg x1 = none) (hv1 : bootBuiltins x1 = some (.type T1)) (hg2 : Gl X x2) (hm2 : X.mg x2 = none) (hv2 : bootBuiltins x2 = some (.type T2)) (ha : GE X W e m)
    (hn1 : x1 ≠ "__name__" := by decide) (hd1 : (x1 == ("__debug__" : Str)) = false := by decide) (hn2 : x2 ≠ "__name__" := by decide) (hd2 : (x2 == ("__debug__" : Str)) = false := by decide)
    (he : starEach [e, .Tuple [.Name x1 p1, .Name x2 p2] kk tp] X.env = (false, eval e X.env) :: starEach [.Tuple [.Name x1 p1, .Name x2 p2] kk tp] X.env := by rfl) (he2 : starEach [.Tuple [.Name x1 p1, .Name x2 p2] kk tp] X.env = (false, eval (.Tuple [.Name x1 p1, .Name x2 p2] kk tp) X.env) :: starEach [] X.env := by rfl)
    (hpl : (backTo pos (starEach [.Tuple [.Name x1 p1, .Name x2 p2] kk tp] X.env)).any (·.1) = false := by rfl)
    (hs1 : starEach [.Name x1 p1, .Name x2 p2] X.env = (false, eval (.Name x1 p1) X.env) :: starEach [.Name x2 p2] X.env := by rfl) (hs2 : starEach [.Name x2 p2] X.env = (false, eval (.Name x2 p2) X.env) :: starEach [] X.env := by rfl) :
    GE X W (.Call (.Name "isinstance" p) [e, .Tuple [.Name x1 p1, .Name x2 p2] kk tp] [] pos) (isi2M T1 T2 m) := by
  refine PEw (pe_callB call_isiT hg hm (by decide +kernel) (pa_cons ha (pa_cons (pe_tup (pa_cons (pe_bltn (v := .ty T1) hg1 hm1 hv1 rfl hn1 hd1) (pa_cons (pe_bltn (v := .ty T2) hg2 hm2 hv2 rfl hn2 hd2) pa_nil hs2) hs1)) pa_nil he2) he) (by decide) (by decide) he hpl) fun σ H Q ⟨ρ, δ, st, k, s, h⟩ => ?_
  refine ⟨ρ, δ, st, k, s, (Post.bind (rel := Rl) h).imp fun v H1 ⟨ρ1, d, st1, e1, k1, r1, h1⟩ => ?_⟩
  split at h1
  · rename_i t et
    split at h1
    · rename_i b eb
      refine ⟨by show 2 ≤ sizeLine; rw [sizeLine_eq]; omega, fun q hq => ?_⟩
      exact ⟨v, q, [.ty T1, .ty T2], .type t, [.type T1, .type T2], b, rfl, upd_same, .cons (.ty T1) (.cons (.ty T2) .nil), TyX.newTup k1 r1 et hq, kitAnyB_ok eb, h1 ρ1 _ _ (Ext.tup hq) (k1.tup hq) .bl⟩
    · exact h1.elim
  · exact h1.elim
theorem g_sorted (hu : X.A.units + 66 < cLine) (hg : Gl X "sorted") (hm : X.mg "sorted" = none) (ha : GA X W [e] am) (he : starEach [e] X.env = (false, eval e X.env) :: starEach [] X.env := by rfl) (hpl : (backTo pos (starEach [] X.env)).any (·.1) = false := by rfl) : GE X W (.Call (.Name "sorted" p) [e] [] pos) (blM sortedV am) :=
  g_callB (cr_sortG hu) sortedV_ok hg hm (by decide +kernel) ha (by decide) (by decide) he hpl
theorem g_reprI (hg : Gl X "repr") (hm : X.mg "repr" = none) (ha : GA X W [e] am) (he : starEach [e] X.env = (false, eval e X.env) :: starEach [] X.env := by rfl) (hpl : (backTo pos (starEach [] X.env)).any (·.1) = false := by rfl) : GE X W (.Call (.Name "repr" p) [e] [] pos) (blM reprIV am) :=
  g_callB cr_reprI reprIV_ok hg hm (by decide +kernel) ha (by decide) (by decide) he hpl
theorem g_listD (hc : X.calm = true) (hg : Gl X "list") (hm : X.mg "list" = none) (ha : GA X W [e] am) (he : starEach [e] X.env = (false, eval e X.env) :: starEach [] X.env := by rfl) (hpl : (backTo pos (starEach [] X.env)).any (·.1) = false := by rfl) : GE X W (.Call (.Name "list" p) [e] [] pos) (blM (orC listV listDV) am) :=
  g_callT (CallR.or call_list_of (call_list_dT hc)) (orC_ok listV_ok listDV_ok) hg hm boot_list ha (by decide) (by decide) he hpl
end

/-! ### len(set(xs)), xs a list of tuples of ints -/
def dd : List (List Int) → List (List Int)
  | [] => []
  | x :: xs => if x ∈ xs then dd xs else x :: dd xs
theorem mem_dd {x : List Int} : ∀ {xs : List (List Int)}, x ∈ dd xs ↔ x ∈ xs
  | [] => by simp [dd]
  | y :: ys => by
    unfold dd
    split
    · rename_i h
      rw [mem_dd (xs := ys), List.mem_cons]
      constructor
      · exact .inr
      · rintro (rfl | q)
        · exact h
        · exact q
    · rw [List.mem_cons, List.mem_cons, mem_dd (xs := ys)]
theorem dd_nodup : ∀ {xs : List (List Int)}, (dd xs).Nodup
  | [] => by simp [dd]
  | y :: ys => by
    unfold dd
    split
    · exact dd_nodup
    · rename_i h
      exact List.nodup_cons.mpr ⟨fun q => h (mem_dd.mp q), dd_nodup⟩
theorem nd_le {α : Type} [DecidableEq α] : ∀ {l m : List α}, l.Nodup → (∀ x ∈ l, x ∈ m) → l.length ≤ m.length
  | [], _, _, _ => Nat.zero_le _
  | x :: l, m, hn, h => by
    have hx := h x (List.mem_cons_self ..)
    obtain ⟨h1, h2⟩ := List.nodup_cons.mp hn
    have ih := nd_le (l := l) (m := m.erase x) h2 fun y hy => (List.mem_erase_of_ne (fun e : y = x => h1 (e ▸ hy))).mpr (h y (List.mem_cons_of_mem _ hy))
    rw [List.length_erase_of_mem hx] at ih
    have := List.length_pos_of_mem hx
    rw [List.length_cons]; omega
def tupsOf : List D → Option (List (List Int))
  | [] => some []
  | .tup xs :: ds => match intsOf xs, tupsOf ds with
    | some ns, some r => some (ns :: r)
    | _, _ => none
  | _ :: _ => none
theorem tupsOf_ok {K : PySem.W.Frag} {ρ : List Addr} {H : Hp} : ∀ {ds : List D} {vs : List V} {nss : List (List Int)}, tupsOf ds = some nss → RlL ρ H ds vs → ∃ ks : List (Addr × List Int), vs = ks.map (fun p => V.ref p.1) ∧ ks.map (·.2) = nss ∧ ∀ p ∈ ks, SqT K H p.1 (p.2.map V.int)
  | [], _, _, e, q => by cases e; cases q; exact ⟨[], rfl, rfl, fun _ h => nomatch h⟩
  | d :: ds, _, nss, e, q => by
    cases q with
    | cons r q =>
      cases d with
      | tup xs =>
        unfold tupsOf at e
        split at e
        · rename_i ns rr e1 e2
          cases e
          obtain ⟨ks, h1, h2, h3⟩ := tupsOf_ok (K := K) e2 q
          cases r with
          | tup ha hz ql =>
            rename_i a us
            have := intsOf_ok e1 ql
            subst this
            refine ⟨(a, ns) :: ks, by rw [h1]; rfl, by rw [List.map_cons, h2], fun p hp => ?_⟩
            rcases List.mem_cons.mp hp with rfl | hp
            · exact SqT.of ha
            · exact h3 p hp
        · cases e
      | _ => cases e
def lenSetM (m : EM) : EM := fun δ st => (m δ st).bind fun d st => match d with
  | .loc l => match st[l]? with
    | some (.lst xs) => match tupsOf xs with
      | some nss => if nss.length < 64 then .ok (.int (dd nss).length) st else .stuck
      | none => .stuck
    | _ => .stuck
  | _ => .stuck
section
variable {X : Cx} {W : WX} {a : Expr} {m : EM} {p p2 q pos : Pos}
def tLenSetT (K : PySem.W.Frag) (ta : TE) : TE := fun σ H Q => ta σ H fun x H1 => ∃ (l : Addr) (ks : List (Addr × List Int)), x = V.ref l ∧ SqL K H1 l (ks.map fun p => V.ref p.1) ∧ (∀ p ∈ ks, SqT K H1 p.1 (p.2.map V.int)) ∧ ks.length < 64 ∧ Q (.int (dd (ks.map (·.2))).length) H1
theorem pe_lenSetT {ta : TE} (hc : X.calm = true) (hu : X.A.units + 64 < cLine) (hg : Gl X "len") (hm : X.mg "len" = none) (hg2 : Gl X "set") (hm2 : X.mg "set" = none) (ha : PE X a ta)
    (na : starEach [a] X.env = (false, eval a X.env) :: starEach [] X.env := by rfl) : PE X (.Call (.Name "len" p) [.Call (.Name "set" p2) [a] [] q] [] pos) (tLenSetT X.K ta) := by
  refine ⟨fun pins s σ H Q I h => ?_⟩
  refine Call_ (ld_blt I hg hm PySem.boot_len ?_)
  refine PyProof.Rows.callWith_builtin1 (PyProof.Rows.args_cons ?_ rfl) rfl rfl
  refine Call_ (ld_blt I hg2 hm2 PyProof.Rows.boot_set ?_)
  refine PyProof.Rows.callWith_type1 (PyProof.Rows.args_cons (thn (ha.run pins s σ H _ I h) fun v s1 ⟨x, H1, I1, r1, q1⟩ => PyProof.Rows.args_nil ?_) na) na rfl
  obtain ⟨l, ks, rfl, hq, hk, h1, q1⟩ := q1
  cases r1
  obtain ⟨its, r, pl, hz⟩ := I1.list hq
  refine call_set_tups (P := X.prog) (w := X.w) ks (I1.ok.hd hc) pl.isList (by simpa using refs_of_vals r) (fun p hp => I1.isT (hk p hp)) h1 (by omega) fun h' tk L es ep t R g hkeep => ?_
  refine PyProof.Rows.args_nil ?_
  have I2 : Inv X pins σ H1 { s1 with heap := h', toks := tk } := I1.kept fun b o e => hkeep b o e
  obtain ⟨o, ho, hex, hd⟩ := R.ob
  have hsz : es.size = L.length := by
    have := congrArg List.length R.rows
    simpa [rowsOf] using this
  have hlen : L.length = (dd (ks.map (·.2))).length := by
    have e1 : (L.map (·.2)).length ≤ (dd (ks.map (·.2))).length := nd_le R.nd fun x hx => by
      obtain ⟨p, hp, rfl⟩ := List.mem_map.mp hx
      have := List.mem_of_mem_take (g.sub p hp)
      exact mem_dd.mpr (List.mem_map.mpr ⟨p, this, rfl⟩)
    have e2 : (dd (ks.map (·.2))).length ≤ (L.map (·.2)).length := nd_le dd_nodup fun x hx => by
      obtain ⟨p, hp, rfl⟩ := List.mem_map.mp (mem_dd.mp hx)
      exact g.all p (by rw [List.take_length]; exact hp)
    rw [List.length_map] at e1 e2
    omega
  have hfew := R.few
  refine call_len_set ho hex hd (SetTR.fits (s := { s1 with heap := h', toks := tk }) R) (by rw [hsz]; omega) ⟨.int L.length, H1, I2.tok _, ⟨_, by rw [hsz]⟩, by rw [hlen]; exact q1⟩
theorem g_lenSet (hc : X.calm = true) (hu : X.A.units + 64 < cLine) (hg : Gl X "len") (hm : X.mg "len" = none) (hg2 : Gl X "set") (hm2 : X.mg "set" = none) (ha : GE X W a m)
    (na : starEach [a] X.env = (false, eval a X.env) :: starEach [] X.env := by rfl) : GE X W (.Call (.Name "len" p) [.Call (.Name "set" p2) [a] [] q] [] pos) (lenSetM m) := by
  refine PEw (pe_lenSetT hc hu hg hm hg2 hm2 ha na) fun σ H Q ⟨ρ, δ, st, k, s, h⟩ => ?_
  refine ⟨ρ, δ, st, k, s, (Post.bind (rel := Rl) h).imp fun v H1 ⟨ρ1, d, st1, e1, k1, r1, h1⟩ => ?_⟩
  split at h1
  · split at h1
    · rename_i hs
      split at h1
      · rename_i nss hn
        split at h1
        · rename_i hz
          cases r1 with
          | loc hr =>
            obtain ⟨us, hv, hz', q2⟩ := k1.lstAt hr hs
            obtain ⟨ks, e1, e2, e3⟩ := tupsOf_ok (K := X.K) hn q2
            subst e1
            subst e2
            exact ⟨_, ks, rfl, SqL.of hv, e3, by simpa using hz, h1.now k1 .int⟩
        · exact h1.elim
      · exact h1.elim
    · exact h1.elim
  · exact h1.elim
end

/-! ### tuple * int -/
section
variable {X : Cx}
theorem tuple_mul1 (l : Addr) (items : Array Value) (n : Nat) (d0 : Option Addr) (sl : Array (Option Value)) (u : Tok) (c1 : (items.isEmpty || (1 : Int) == 1) = true) :
    Meets (PySem.Builtin.«tuple.__mul__» ⟨[.ref l, .int 1 u], []⟩) (fun _ R s => s.heap.get? l = some { cls := .type "tuple", dict := d0, data := .seq items n, slots := sl } ∧ R (.ok (.ret (Value.ref l))) s) :=
  .of_wp fun prog w A R s h => by
    obtain ⟨hp, g, d, tk, os⟩ := s
    obtain ⟨hl, h⟩ := h
    have f1 := AutoSeq1.idx_int
    wp_walk using wpAny_loadPart' hl
    exact ⟨_, rfl, h⟩
abbrev rRepT1 (K : PySem.W.Frag) : R2 := fun x y H Q => ∃ l xs, x = .ref l ∧ y = .int 1 ∧ SqT K H l xs ∧ Q (.ref l) H
theorem op_repT1 : OpR X (binaryOp .Mult) (rRepT1 X.K) := by
  intro pins s σ H x y v u Q I rx ry h
  obtain ⟨l, xs, rfl, rfl, hT, q⟩ := h
  cases rx
  obtain ⟨t, rfl⟩ := ry
  obtain ⟨its, r, ⟨⟨cls, d0, data, sl⟩, ho, hc, n, hd⟩, hs⟩ := I.tuple hT
  simp only at hc hd
  subst hc hd
  refine wpAny_binaryOp_repeat_ref (T := "tuple") (U := "int") (by decide) ⟨_, ho, rfl⟩ (fun s' => typeIs_int s' 1 t) noFill_tuple_mul F.fills_int_mul F.slot_int_rmul repeat_tuple F.slot_int_index.lookup
    (call_meets F.slot_int_rmul (typeIs_int s 1 t) F.entry_int_rmul (F.args_int_rmul_2 _ _) (int_rmul_tuple 1 t l its.toArray n d0 sl)
      ⟨ho, rfl, ⟨_, ho, rfl⟩, call_meets F.slot_tuple_mul ⟨_, ho, rfl⟩ F.entry_tuple_mul (F.args_tuple_mul_2 _ _) (tuple_mul1 l its.toArray n d0 sl t (by simp)) ⟨ho, ?_⟩⟩)
  exact ⟨.ref l, H, I, rfl, q⟩
abbrev rMulT (K : PySem.W.Frag) : R2 := fun x y H Q => rMulG x y H Q ∨ rRepT1 K x y H Q ∨ rRepT K x y H Q
theorem op_mulT : OpR X (binaryOp .Mult) (rMulT X.K) := op_mulG.or (op_repT1.or op_repT)
@[simp] def mulTV : F2
  | .tup xs, .int k, st => if k = 1 then .ok (.tup xs) st else if 0 < xs.length ∧ 2 ≤ k ∧ k ≤ 1000 ∧ xs.length ≤ 1000 then .ok (.tup (List.replicate k.toNat xs).flatten) st else .stuck
  | x, y, st => mulV x y st
theorem RlL.rep {ρ : List Addr} {H : Hp} {xs : List D} {vs : List V} (q1 : RlL ρ H xs vs) : ∀ n : Nat, RlL ρ H (List.replicate n xs).flatten (List.replicate n vs).flatten
  | 0 => .nil
  | n + 1 => by rw [List.replicate_succ, List.replicate_succ, List.flatten_cons, List.flatten_cons]; exact q1.append (RlL.rep q1 n)
theorem mulTV_ok {K : PySem.W.Frag} : OpG K mulTV (rMulT K) := by
  intro ρ st H x y v u Wx Q k r1 r2 h
  unfold mulTV at h
  split at h
  · rename_i xs i
    cases r2
    cases r1 with
    | tup ha hz q =>
      split at h
      · rename_i e
        subst e
        exact .inr (.inl ⟨_, _, rfl, rfl, SqT.of ha, h.now k (.tup ha hz q)⟩)
      · split at h
        · rename_i hc
          have hl := q.length
          have hq := RlL.rep q i.toNat
          refine .inr (.inr ⟨_, _, _, rfl, rfl, SqT.of ha, fun e => ?_, hc.2.1, hc.2.2.1, by omega, Post.newTup k hq ?_ h⟩)
          · rw [e] at hl; simp at hl; rw [hl] at hc; simp at hc
          · rw [List.length_flatten, List.map_replicate, List.sum_replicate_nat, sizeLine_eq]
            have : i.toNat * (List.length _) ≤ 1000 * 1000 := Nat.mul_le_mul (by omega) (Nat.le_trans (Nat.le_of_eq hl.symm) hc.2.2.2)
            omega
        · exact h.elim
  · exact .inl (mulV_ok _ _ _ _ _ _ _ _ _ k r1 r2 h)
end
abbrev mulTM := bin2 mulTV
theorem g_mulT {X : Cx} {W : WX} {a b : Expr} {ma mb : EM} {pos : Pos} (ha : GE X W a ma) (hb : GE X W b mb) : GE X W (.BinOp a .Mult b pos) (mulTM ma mb) := g_op op_mulT mulTV_ok ha hb
/-! ### an expression's garbage -/
@[simp] noncomputable def gcM (m : EM) : EM := fun δ st => gc st (m δ st)
theorem g_gc {X : Cx} {W : WX} {e : Expr} {m : EM} (h : GE X W e m) : GE X W e (gcM m) := PEw h fun σ H Q ⟨ρ, δ, st, k, s, h⟩ => ⟨ρ, δ, st, k, s, gc_ok k h⟩
/-! ### the script may be one of the module's own lists -/
def KList (K : PySem.W.Frag) (a : Addr) (ns : List Int) : Prop := ∃ (o : Obj) (its : Array Value) (n : Nat), K.lookup a = some o ∧ o.cls = .type "list" ∧ o.dict = none ∧ o.data = .seq its n ∧ its.size ≤ sizeLine ∧ Vals (ns.map V.int) its.toList
theorem vals_int_inj : ∀ {ns ms : List Int} {us : List Value}, Vals (ns.map V.int) us → Vals (ms.map V.int) us → ns = ms
  | [], [], _, _, _ => rfl
  | [], _ :: _, _, .nil, h => nomatch h
  | _ :: _, [], _, h, .nil => nomatch h
  | n :: ns, m :: ms, _ :: _, .cons r t, .cons r' t' => by
    obtain ⟨k, e⟩ := r
    obtain ⟨k', e'⟩ := r'
    rw [e] at e'
    injection e' with e1 _
    rw [e1, vals_int_inj t t']
theorem KList.inj {K : PySem.W.Frag} {a : Addr} {ns ms : List Int} (h : KList K a ns) (h' : KList K a ms) : ns = ms := by
  obtain ⟨o, its, n, e1, _, _, e2, _, v⟩ := h
  obtain ⟨o', its', n', e1', _, _, e2', _, v'⟩ := h'
  rw [e1] at e1'; cases e1'
  rw [e2] at e2'; cases e2'
  exact vals_int_inj v v'
open Classical in
noncomputable def klInts (K : PySem.W.Frag) (a : Addr) : Option (List Int) := if h : ∃ ns, KList K a ns then some h.choose else none
theorem klInts_of {K : PySem.W.Frag} {a : Addr} {ns : List Int} (h : KList K a ns) : klInts K a = some ns := by
  have hx : ∃ ns, KList K a ns := ⟨ns, h⟩
  unfold klInts
  rw [dif_pos hx, hx.choose_spec.inj h]
theorem klInts_some {K : PySem.W.Frag} {a : Addr} {ns : List Int} (h : klInts K a = some ns) : KList K a ns := by
  unfold klInts at h
  split at h
  · rename_i hx; cases h; exact hx.choose_spec
  · cases h
noncomputable def sliceKM (K : PySem.W.Frag) (m : EM) (lo hi : OM) : EM := fun δ st => (m δ st).bind fun x st => (lo δ st).bind fun l st => (hi δ st).bind fun u st => match x with
  | .loc n => match st[n]? with
    | some (.rdl ds) => .ok (.loc st.length) (st ++ [.lst (cutD ds l u)])
    | _ => .stuck
  | .kl a => match klInts K a with
    | some ns => .ok (.loc st.length) (st ++ [.lst (cutD (ns.map D.int) l u)])
    | none => .stuck
  | _ => .stuck
theorem RlL.ints {ρ : List Addr} {H : Hp} : ∀ ns : List Int, RlL ρ H (ns.map D.int) (ns.map V.int)
  | [] => .nil
  | _ :: ns => .cons .int (RlL.ints ns)
theorem g_sliceK {X : Cx} {W : WX} {e : Expr} {lo hi : Option Expr} {m : EM} {l u : OM} {pos p2 : Pos} (he : GE X W e m) (hl : GO X W lo l) (hu : GO X W hi u) : GE X W (.Subscript e (.Slice lo hi none p2) pos) (sliceKM X.K m l u) := by
  refine PEw (pe_slice (sl_list.or sl_tupA) he hl hu) fun σ H Q ⟨ρ, δ, st, k, s, h⟩ => ?_
  refine ⟨ρ, δ, st, k, s, (Post.bind (rel := Rl) h).imp fun v H1 ⟨ρ1, x, st1, e1, k1, r1, h1⟩ => ?_⟩
  refine ⟨ρ1, δ, st1, k1, s.mono e1, (Post.bind (rel := fun _ _ (a b : Option Int) => a = b) h1).imp fun lv H2 ⟨ρ2, l', st2, e2, k2, r2, h2⟩ => ?_⟩
  subst r2
  refine ⟨ρ2, δ, st2, k2, s.mono (e1.trans e2), (Post.bind (rel := fun _ _ (a b : Option Int) => a = b) h2).imp fun uv H3 ⟨ρ3, u', st3, e3, k3, r3, h3⟩ => ?_⟩
  subst r3
  have r1' := r1.mono (e2.trans e3)
  split at h3
  · split at h3
    · rename_i hs
      cases r1' with
      | loc hr =>
        obtain ⟨o, vs, hv, hz, q⟩ := k3.ob _ _ _ hs hr
        exact .inl ⟨_, _, rfl, .inl (.inr ⟨o, hv⟩), Post.newLst k3 (cutD_rl q _ _) (Nat.le_trans (cutV_length _ _ _) hz) h3⟩
    · exact h3.elim
  · split at h3
    · rename_i ns hk
      obtain ⟨o, its, n, f1, f2, f3, f4, f5, f6⟩ := klInts_some hk
      cases r1'
      have hz : (ns.map V.int).length ≤ sizeLine := by rw [f6.length]; simpa using f5
      exact .inl ⟨_, _, rfl, .inr ⟨o, its, n, f1, f2, f3, f4, f5, f6⟩, Post.newLst k3 (cutD_rl (RlL.ints ns) _ _) (Nat.le_trans (cutV_length _ _ _) hz) h3⟩
    · exact h3.elim
  · exact h3.elim
/-! ### the law's end -/
theorem walk_ofG {l : PySem.W.OpenLaw} {n k : Nat} {q : Program} {loose : List Str} {XP : (Str → Option Value) → Heap → Prop} {YP : World → Heap → Prop} {d : DefRec} {x : Str}
    (hn : l.most = some n) (hn2 : n ≤ sizeLine) (hdf : d.params.defaults = []) (hr : Room k callerA)
    (F : ∀ (w : World) (mg : Str → Option Value) (fa : Addr) (h : Heap), YP w h → h.Ns mainGlobals mg → mg d.name = some (.ref fa) →
      ∃ (K : PySem.W.Frag) (fd : FuncData) (Fm : FM), K.In h ∧ (∀ (s : Shared) (u : Value), BindsTo s fd ⟨[u], []⟩ [(x, u)]) ∧
        (∀ ns : List Int, ns.length ≤ n → (∃ st', Fm [.loc 0] [.rdl (ns.map D.int)] = .ok (.bl true) st') ∧ ∀ a, KList K a ns → ∃ st', Fm [.kl a] [] = .ok (.bl true) st') ∧
        ∀ base : Heap, K.In base → base.Ns mainGlobals mg → FnG l.prog w K mg base k fa fd [x] Fm) :
    PySem.W.WalkO q loose XP YP l.row.toRowW d [] (fun f vs => PySem.call f vs) := by
  refine Att.attach_call hn hdf fun w s₀ s₁ mg mb fa o pm cd doc a vs ns G Y ho hd hcd hmg hobj hints hlen hg => ?_
  obtain ⟨K, fd, Fm, KX, hb, hsp, hF⟩ := F w mg fa _ Y G.T.g hmg
  refine law_call (CX := L2.CX l.prog w) (sp := spF K 1 Fm) KX G.T.g G.T.b G.T.builtins G.T.nolimit hg hobj hints (Nat.le_trans hlen hn2) hr
    (fun base hK hB => ⟨fun vs H Q E h => h.1, fun A outer s H args us vs Q E hr he hb hv hs => (hF base hK hB).run A outer s H args us vs Q E hr trivial he hb hv hs⟩) hb (fun H hO hS => ?_) fun H e s' ⟨_, _, _, _, _, _, _, _, _, _, _, _, h⟩ => h
  obtain ⟨h1, h2⟩ := hsp ns hlen
  refine ⟨rfl, ?_⟩
  rcases hS with (hS | ⟨o, hS⟩) | hS
  · rcases hO a with z | ⟨o, xs, z⟩
    · rw [z] at hS; cases hS
    · rw [z] at hS; cases hS
  · obtain ⟨st', e⟩ := h1
    refine ⟨[a], [.loc 0], [.rdl (ns.map D.int)], ⟨rfl, by simp, fun i mo b hs hr => ?_⟩, .cons (.loc rfl) .nil, ?_⟩
    · cases i with
      | zero =>
        cases hs; cases hr
        exact ⟨o, _, hS, by rw [List.length_map]; exact Nat.le_trans hlen hn2, RlL.ints ns⟩
      | succ i => simp at hs
    · rw [e]
      intro ρ' H' b _ _ r
      cases r; rfl
  · obtain ⟨st', e⟩ := h2 a hS
    refine ⟨[], [.kl a], [], ⟨rfl, by simp, fun i mo b hs hr => by simp at hs⟩, .cons .kl .nil, ?_⟩
    rw [e]
    intro ρ' H' b _ _ r
    cases r; rfl
end Fx
/-! Zp: list(zip(xs, ys)) at the level of the model. -/
namespace Fx
open PySem PySem.Spec PyProof.Rows L2
abbrev ZipF (h : Heap) (z TI TO T : Addr) (f : Bool) : Prop := h.get? z = some { cls := .type "zip", dict := none, data := .fields #[rawInt T, .bool f, .bool false, .ref TI, .ref TO], slots := #[] }
section
variable {prog : Program} {w : World} {A : Around} {E : Value → Shared → Prop} {s : Shared}
theorem zf_free {z TI TO T : Addr} {f : Bool} {oa : Obj} {Q : Bool → Shared → Prop} (hz : ZipF s.heap z TI TO T f) (ha : s.heap.get? T = some oa)
    (h : ∀ h', ZipF h' z TI TO T true → Heap.SameBut z s.heap h' → Q false { s with heap := h' }) : wpAny (model prog w) A (Builtin.SmallTypes.ownedTupleIsFree (.ref z)) Q E s := by
  obtain ⟨hp, g, dr, tk, os⟩ := s
  unfold Builtin.SmallTypes.ownedTupleIsFree
  refine wpAny_bind (wpAny_field hz rfl (x := rawInt T) rfl ?_)
  show wpAny _ _ (loadIfAlive ((T : Int).toNat) >>= _) _ _ _
  rw [Int.toNat_natCast]
  refine wpAny_bind (PySem.W.kdx_alive ha ?_)
  simp only [Option.isNone_some, Bool.false_eq_true, if_false]
  refine wpAny_bind (wpAny_field hz rfl (x := .bool f) rfl ?_)
  cases f with
  | true =>
    rw [if_neg (show ¬ ((Value.bool true != Value.bool true) = true) from Bool.false_ne_true)]
    exact wpAny_pure (h hp hz (Heap.SameBut.refl _ _))
  | false =>
    rw [if_pos (show (Value.bool false != Value.bool true) = true from rfl)]
    refine wpAny_bind (wpAny_setField_rec hz (by simp) fun h₃ he₃ hs₃ => wpAny_pure (h h₃ he₃ hs₃))

theorem zf_item {z TI TO T i1 i2 l1 l2 : Addr} {k1 k2 : Nat} {f : Bool} {oa : Obj} {xs ys : Array Value} {x y a b : Value} {Q : Value → Shared → Prop} (D : ZipApart z TI TO i1 i2 l1 l2)
    (hz : ZipF s.heap z TI TO T f) (ha : s.heap.get? T = some oa) (hTI : IsPair s.heap TI (.ref i1) (.ref i2))
    (h1 : s.heap.IsListIter i1 l1 k1) (h2 : s.heap.IsListIter i2 l2 k2) (hl1 : s.heap.IsList l1 xs) (hl2 : s.heap.IsList l2 ys) (hx : xs[k1]? = some x) (hy : ys[k2]? = some y)
    (hQ : ∀ h', ZipF h' z TI TO T true → h'.IsListIter i1 l1 (k1 + 1) → h'.IsListIter i2 l2 (k2 + 1) → IsPair h' s.heap.objs.size x y → h'.objs.size = s.heap.objs.size + 1 →
      (∀ c o, c ≠ z → c ≠ TO → c ≠ i1 → c ≠ i2 → s.heap.get? c = some o → h'.get? c = some o) → (∀ c o, c ≠ z → c ≠ i1 → c ≠ i2 → s.heap.get? c = some o → h'.get? c = some o) → Q (.ref s.heap.objs.size) { s with heap := h' }) :
    wpAny (model prog w) A (Builtin.«zip.__next__» ⟨[.ref z], []⟩) (fun fin s' => ∃ v, fin = .done (.ret v) ∧ Q v s') E s := by
  show wpAny _ _ (field (.ref z) 2 >>= _) _ _ _
  refine wpAny_bind (wpAny_field hz rfl (x := .bool false) rfl ?_)
  show wpAny _ _ (field (.ref z) 3 >>= _) _ _ _
  refine wpAny_bind (wpAny_field hz rfl (x := .ref TI) rfl ?_)
  refine wpAny_bind (wpAny_seqItems hTI rfl ?_)
  show wpAny _ _ (Builtin.SmallTypes.ownedTupleIsFree (.ref z) >>= _) _ _ _
  refine wpAny_bind (zf_free hz ha fun h₁ hz₁ hs₁ => ?_)
  simp only [Bool.false_eq_true, if_false, List.forIn_toArray, List.forIn_cons, List.forIn_nil]
  refine wpAny_bind (wpAny_bind (wpAny_bind (wpAny_holding ?_)))
  show wpAny _ _ (Builtin.SmallTypes.nextOf (.ref i1) >>= _) _ _ _
  refine wpAny_bind (wpAny_nextOf_list_item (h1.extBut hs₁.extBut D.i1z) (hl1.extBut hs₁.extBut D.l1z) hx fun h₂ h1₂ hs₂ => wpAny_pure (wpAny_pure ?_))
  refine wpAny_bind (wpAny_bind (wpAny_holding ?_))
  show wpAny _ _ (Builtin.SmallTypes.nextOf (.ref i2) >>= _) _ _ _
  refine wpAny_bind (wpAny_nextOf_list_item ((h2.extBut hs₁.extBut D.i2z).extBut hs₂.extBut D.i12.symm)
    ((hl2.extBut hs₁.extBut D.l2z).extBut hs₂.extBut D.l2i1) hy fun h₄ h2₄ hs₄ => wpAny_pure (wpAny_pure (wpAny_pure ?_)))
  refine wpAny_bind (wpAny_newTuple (hsz := by show 2 ≤ sizeLine; decide) ?_)
  have hsz : h₄.objs.size = s.heap.objs.size := by rw [hs₄.1, hs₂.1, hs₁.1]
  have hz₄ : ZipF h₄ z TI TO T true := hs₄.extBut _ _ D.i2z.symm (hs₂.extBut _ _ D.i1z.symm hz₁)
  have hk₄ : ∀ c o, c ≠ z → c ≠ i1 → c ≠ i2 → s.heap.get? c = some o → h₄.get? c = some o := fun c o c1 c3 c4 e =>
    hs₄.extBut _ _ c4 (hs₂.extBut _ _ c3 (hs₁.extBut _ _ c1 e))
  have h1₄ : h₄.IsListIter i1 l1 (k1 + 1) := h1₂.extBut hs₄.extBut D.i12
  refine wpAny_pure ⟨_, rfl, ?_⟩
  show Q (.ref h₄.objs.size) _
  have hp : IsPair (h₄.push { cls := .type "tuple", data := .seq #[x, y] }) h₄.objs.size x y := Heap.get?_push_size _ rfl
  have hk' : ∀ c o, h₄.get? c = some o → (h₄.push { cls := .type "tuple", data := .seq #[x, y] }).get? c = some o := fun c o e => Heap.get?_push_of_some _ e
  have hz8 : (h₄.push { cls := .type "tuple", data := .seq #[x, y] }).objs.size = h₄.objs.size + 1 := Heap.size_push ..
  rw [hsz] at hp hz8 ⊢
  exact hQ _ (hk' _ _ hz₄) (h1₄.at fun o e => hk' _ o e) (h2₄.at fun o e => hk' _ o e) hp hz8 (fun c o c1 _ c3 c4 e => hk' c o (hk₄ c o c1 c3 c4 e)) fun c o c1 c3 c4 e => hk' c o (hk₄ c o c1 c3 c4 e)

theorem zf_end {z TI TO T i1 i2 l1 l2 : Addr} {k1 k2 : Nat} {f : Bool} {oa : Obj} {xs ys : Array Value} {Q : Fin → Shared → Prop} (hh : A.handled = none) (D : ZipApart z TI TO i1 i2 l1 l2)
    (hz : ZipF s.heap z TI TO T f) (ha : s.heap.get? T = some oa) (hTI : IsPair s.heap TI (.ref i1) (.ref i2))
    (h1 : s.heap.IsListIter i1 l1 k1) (h2 : s.heap.IsListIter i2 l2 k2) (hl1 : s.heap.IsList l1 xs) (hl2 : s.heap.IsList l2 ys) (hend : xs[k1]? = none ∨ ys[k2]? = none)
    (hE : ∀ h' e, (∀ c o, c ≠ z → c ≠ TO → c ≠ i1 → c ≠ i2 → s.heap.get? c = some o → h'.get? c = some o) → (∃ o, h'.get? e = some o ∧ o.cls = .type "StopIteration") → E (.ref e) { s with heap := h' }) :
    wpAny (model prog w) A (Builtin.«zip.__next__» ⟨[.ref z], []⟩) Q E s := by
  show wpAny _ _ (field (.ref z) 2 >>= _) _ _ _
  refine wpAny_bind (wpAny_field hz rfl (x := .bool false) rfl ?_)
  show wpAny _ _ (field (.ref z) 3 >>= _) _ _ _
  refine wpAny_bind (wpAny_field hz rfl (x := .ref TI) rfl ?_)
  refine wpAny_bind (wpAny_seqItems hTI rfl ?_)
  show wpAny _ _ (Builtin.SmallTypes.ownedTupleIsFree (.ref z) >>= _) _ _ _
  refine wpAny_bind (zf_free hz ha fun h₁ hz₁ hs₁ => ?_)
  simp only [Bool.false_eq_true, if_false, List.forIn_toArray, List.forIn_cons, List.forIn_nil]
  refine wpAny_bind (wpAny_bind (wpAny_bind (wpAny_holding ?_)))
  show wpAny _ _ (Builtin.SmallTypes.nextOf (.ref i1) >>= _) _ _ _
  cases hx : xs[k1]? with
  | none =>
    exact wpAny_bind (wpAny_nextOf_list_end hh (h1.extBut hs₁.extBut D.i1z) (hl1.extBut hs₁.extBut D.l1z) hx fun h₂ e hs₂ he => hE h₂ e (fun c o c1 _ c3 _ x => hs₂ _ _ c3 (hs₁.extBut _ _ c1 x)) he)
  | some x =>
    have hy : ys[k2]? = none := by rcases hend with h | h; rw [hx] at h; cases h; exact h
    refine wpAny_bind (wpAny_nextOf_list_item (h1.extBut hs₁.extBut D.i1z) (hl1.extBut hs₁.extBut D.l1z) hx fun h₂ h1₂ hs₂ => wpAny_pure (wpAny_pure ?_))
    refine wpAny_bind (wpAny_bind (wpAny_holding ?_))
    show wpAny _ _ (Builtin.SmallTypes.nextOf (.ref i2) >>= _) _ _ _
    exact wpAny_bind (wpAny_nextOf_list_end hh ((h2.extBut hs₁.extBut D.i2z).extBut hs₂.extBut D.i12.symm)
      ((hl2.extBut hs₁.extBut D.l2z).extBut hs₂.extBut D.l2i1) hy fun h₄ e hs₄ he => hE h₄ e (fun c o c1 _ c3 c4 x => hs₄ _ _ c4 (hs₂.extBut _ _ c3 (hs₁.extBut _ _ c1 x))) he)

structure ZSt (h : Heap) (z TI TO i1 i2 l1 l2 S : Addr) (xs ys : Array Value) (i : Nat) : Prop where
  cell : (i = 0 ∧ IsZip h z TI TO .none) ∨ ∃ T f oa, ZipF h z TI TO T f ∧ h.get? T = some oa ∧ T ≠ z ∧ T ≠ TO ∧ T ≠ i1 ∧ T ≠ i2 ∧ T ≠ S
  pI : IsPair h TI (.ref i1) (.ref i2)
  pO : ∃ a b, IsPair h TO a b
  h1 : h.IsListIter i1 l1 i
  h2 : h.IsListIter i2 l2 i
  L1 : h.IsList l1 xs
  L2 : h.IsList l2 ys
structure ZOff (z TI TO i1 i2 l1 l2 S : Addr) : Prop where
  z : z ≠ S
  TI : TI ≠ S
  TO : TO ≠ S
  i1 : i1 ≠ S
  i2 : i2 ≠ S
  l1 : l1 ≠ S
  l2 : l2 ≠ S
theorem ZSt.keep {h h' : Heap} {z TI TO i1 i2 l1 l2 S : Addr} {xs ys : Array Value} {i : Nat} (x : ZSt h z TI TO i1 i2 l1 l2 S xs ys i) (o : ZOff z TI TO i1 i2 l1 l2 S) (hk : ∀ b o, b ≠ S → h.get? b = some o → h'.get? b = some o) : ZSt h' z TI TO i1 i2 l1 l2 S xs ys i := by
  refine ⟨?_, hk _ _ o.TI x.pI, ?_, x.h1.at fun _ e => hk _ _ o.i1 e, x.h2.at fun _ e => hk _ _ o.i2 e, x.L1.at fun _ e => hk _ _ o.l1 e, x.L2.at fun _ e => hk _ _ o.l2 e⟩
  · rcases x.cell with ⟨e, hz⟩ | ⟨T, f, oa, hz, ha, t1, t2, t3, t4, t5⟩
    · exact .inl ⟨e, hk _ _ o.z hz⟩
    · exact .inr ⟨T, f, oa, hk _ _ o.z hz, hk _ _ t5 ha, t1, t2, t3, t4, t5⟩
  · obtain ⟨a, b, e⟩ := x.pO
    exact ⟨a, b, hk _ _ o.TO e⟩
theorem zst_item {z TI TO i1 i2 l1 l2 S : Addr} {i : Nat} {xs ys : Array Value} {x y : Value} {Q : Option Value → Shared → Prop} (D : ZipApart z TI TO i1 i2 l1 l2) (st : ZSt s.heap z TI TO i1 i2 l1 l2 S xs ys i) (hS : S < s.heap.objs.size) (hx : xs[i]? = some x) (hy : ys[i]? = some y)
    (hQ : ∀ h', ZSt h' z TI TO i1 i2 l1 l2 S xs ys (i + 1) → IsPair h' s.heap.objs.size x y → h'.objs.size = s.heap.objs.size + 1 →
      (∀ c o, c ≠ z → c ≠ TO → c ≠ i1 → c ≠ i2 → s.heap.get? c = some o → h'.get? c = some o) → Q (some (.ref s.heap.objs.size)) { s with heap := h' }) :
    wpAny (model prog w) A (pyNext (.ref z)) Q E s := by
  obtain ⟨cell, pI, ⟨a, b, pO⟩, h1, h2, L1, L2⟩ := st
  have lt : ∀ {c o}, s.heap.get? c = some o → s.heap.objs.size ≠ c := fun e => Nat.ne_of_gt (Heap.lt_size e)
  have lz : s.heap.objs.size ≠ z := by
    rcases cell with ⟨_, hz⟩ | ⟨T, f, oa, hz, _⟩
    · exact lt hz
    · exact lt hz
  have l1' : s.heap.objs.size ≠ i1 := by obtain ⟨_, e, _⟩ := h1; exact lt e
  have l2' : s.heap.objs.size ≠ i2 := by obtain ⟨_, e, _⟩ := h2; exact lt e
  rcases cell with ⟨_, hz⟩ | ⟨T, f, oa, hz, ha, t1, t2, t3, t4, t5⟩
  · refine wpAny_pyNext_zip_item D hz pI pO h1 h2 L1 L2 hx hy fun h' a1 a2 a3 a4 a5 a6 hk => ?_
    exact hQ h' ⟨.inr ⟨_, false, _, a1, a5, lz, lt pO, l1', l2', Nat.ne_of_gt hS⟩, hk _ _ D.TIz D.TITO D.TIi1 D.TIi2 pI, ⟨_, _, a2⟩, a3, a4, L1.at fun o e => hk _ o D.l1z D.l1TO D.l1i1 D.l1i2 e, L2.at fun o e => hk _ o D.l2z D.l2TO D.l2i1 D.l2i2 e⟩ a5 a6 hk
  · have hT : s.TypeIs (.ref z) "zip" := ⟨_, hz, rfl⟩
    unfold pyNext
    refine wpAny_bind (wpAny_attempt (wpAny_callSpecial?_slot (name := Str.ofString "__next__") hT PySem.F.slot_zip_next
      (wpAny_call_entry PySem.F.slot_zip_next hT PySem.F.entry_zip_next
        (zf_item (a := a) (b := b) D hz ha pI h1 h2 L1 L2 hx hy fun h' a1 a3 a4 a5 a6 hk hk2 => wpAny_pure ?_) (PySem.F.args_zip_next_1 _))))
    exact hQ h' ⟨.inr ⟨T, true, oa, a1, hk _ _ t1 t2 t3 t4 ha, t1, t2, t3, t4, t5⟩, hk _ _ D.TIz D.TITO D.TIi1 D.TIi2 pI, ⟨_, _, hk2 _ _ D.TOz D.TOi1 D.TOi2 pO⟩, a3, a4, L1.at fun o e => hk _ o D.l1z D.l1TO D.l1i1 D.l1i2 e, L2.at fun o e => hk _ o D.l2z D.l2TO D.l2i1 D.l2i2 e⟩ a5 a6 hk
theorem zst_end {z TI TO i1 i2 l1 l2 S : Addr} {i : Nat} {xs ys : Array Value} {Q : Option Value → Shared → Prop} (hh : A.handled = none) (D : ZipApart z TI TO i1 i2 l1 l2) (st : ZSt s.heap z TI TO i1 i2 l1 l2 S xs ys i) (hend : xs[i]? = none ∨ ys[i]? = none)
    (hQ : ∀ h', (∀ c o, c ≠ z → c ≠ TO → c ≠ i1 → c ≠ i2 → s.heap.get? c = some o → h'.get? c = some o) → Q none { s with heap := h' }) :
    wpAny (model prog w) A (pyNext (.ref z)) Q E s := by
  obtain ⟨cell, pI, ⟨a, b, pO⟩, h1, h2, L1, L2⟩ := st
  rcases cell with ⟨_, hz⟩ | ⟨T, f, oa, hz, ha, t1, t2, t3, t4, t5⟩
  · exact wpAny_pyNext_zip_end hh D hz pI pO h1 h2 L1 L2 hend hQ
  · have hT : s.TypeIs (.ref z) "zip" := ⟨_, hz, rfl⟩
    unfold pyNext
    refine wpAny_bind (wpAny_attempt (wpAny_callSpecial?_slot (name := Str.ofString "__next__") hT PySem.F.slot_zip_next
      (wpAny_call_entry PySem.F.slot_zip_next hT PySem.F.entry_zip_next (zf_end hh D hz ha pI h1 h2 L1 L2 hend fun h' e hk he => ?_) (PySem.F.args_zip_next_1 _))))
    obtain ⟨o, ho, hc⟩ := he
    refine wpAny_bind (wpAny_isInstance (T := "StopIteration") (b := true) ⟨o, ho, hc⟩ isSubtype_stop ?_)
    exact wpAny_pure (hQ _ hk)
end
/-- the tuples of a list of pairs -/
structure ZpG (xs ys : Array Value) (lo : Addr) (h : Heap) (as : List Addr) : Prop where
  rise : as.Pairwise (· < ·)
  above : ∀ a ∈ as, lo < a
  pairs : ∀ (j : Nat) (a : Addr), as[j]? = some a → ∃ x y, xs[j]? = some x ∧ ys[j]? = some y ∧ IsPair h a x y
theorem ZpG.there {xs ys : Array Value} {lo : Addr} {h : Heap} {as : List Addr} (g : ZpG xs ys lo h as) {a : Addr} (ha : a ∈ as) : a < h.objs.size := by
  obtain ⟨j, hj⟩ := List.mem_iff_getElem?.mp ha
  obtain ⟨_, _, _, _, e⟩ := g.pairs j a hj
  exact Heap.lt_size e
section
variable {prog : Program} {w : World} {A : Around} {s : Shared} {R : Result → Shared → Prop}
theorem zp_loop {z TI TO i1 i2 l1 l2 S : Addr} {xs ys : Array Value} {n : Nat} (hh : A.handled = none) (D : ZipApart z TI TO i1 i2 l1 l2) (O : ZOff z TI TO i1 i2 l1 l2 S) (hb : z < S ∧ TO < S ∧ i1 < S ∧ i2 < S) (hn : n = min xs.size ys.size) (hn2 : n ≤ sizeLine) (res : Value) {h₁ : Heap}
    (hR : ∀ h' tk acc c as, (∀ b o, b ≠ S → b ≠ z → b ≠ TO → b ≠ i1 → b ≠ i2 → h₁.get? b = some o → h'.get? b = some o) → h'.get? S = some { cls := .type "list", dict := none, data := .seq acc c, slots := #[] } → as.length = n → ZpG xs ys S h' as →
      acc.toList = as.map Value.ref → R (.ok (.ret res)) { s with heap := h', toks := tk }) :
    ∀ (k i : Nat) (h : Heap) (tk c : Nat) (acc : Array Value) (as : List Addr), n - i = k → i ≤ n → ZSt h z TI TO i1 i2 l1 l2 S xs ys i → (∀ b o, b ≠ S → b ≠ z → b ≠ TO → b ≠ i1 → b ≠ i2 → h₁.get? b = some o → h.get? b = some o) →
      h.get? S = some { cls := .type "list", dict := none, data := .seq acc c, slots := #[] } → acc.toList = as.map Value.ref → as.length = i → ZpG xs ys S h as →
      codeAny (model prog w) A (.builtin "list.extend.loop" ⟨[.ref S, .ref z, res], []⟩) R { s with heap := h, toks := tk } := by
  intro k
  induction k with
  | zero =>
    intro i h tk c acc as hk hi hst hkeep hS hacc hal hG
    have hin : i = n := by omega
    refine codeAny_builtin PySem.F.entry_extend_loop ?_
    rw [Around.under_plainId PySem.F.plain_extend_loop _]
    show wpAny _ A.in1 (pyNext (.ref z) >>= _) _ _ _
    have hend : xs[i]? = none ∨ ys[i]? = none := by
      rcases Nat.le_total xs.size ys.size with h | h
      · exact .inl (Array.getElem?_eq_none (by omega))
      · exact .inr (Array.getElem?_eq_none (by omega))
    refine wpAny_bind (zst_end (s := { s with heap := h, toks := tk }) (A := A.in1) hh D hst hend fun h' he => ?_)
    refine wpAny_pure (hR h' tk acc c as (fun b o h1 h2 h3 h4 h5 e => he b o h2 h3 h4 h5 (hkeep b o h1 h2 h3 h4 h5 e)) (he S _ O.z.symm O.TO.symm O.i1.symm O.i2.symm hS) (by omega) ⟨hG.rise, hG.above, fun j a hj => ?_⟩ hacc)
    obtain ⟨x, y, e1, e2, e3⟩ := hG.pairs j a hj
    have hab := hG.above a (List.mem_of_getElem? hj)
    exact ⟨x, y, e1, e2, he a _ (Nat.ne_of_gt (Nat.lt_trans hb.1 hab)) (Nat.ne_of_gt (Nat.lt_trans hb.2.1 hab)) (Nat.ne_of_gt (Nat.lt_trans hb.2.2.1 hab)) (Nat.ne_of_gt (Nat.lt_trans hb.2.2.2 hab)) e3⟩
  | succ k ih =>
    intro i h tk c acc as hk hi hst hkeep hS hacc hal hG
    have hlt : i < n := by omega
    have hix : i < xs.size := by omega
    have hiy : i < ys.size := by omega
    have hsz : acc.size = i := by rw [← Array.length_toList, hacc, List.length_map, hal]
    have hSl : S < h.objs.size := Heap.lt_size hS
    refine codeAny_builtin PySem.F.entry_extend_loop ?_
    rw [Around.under_plainId PySem.F.plain_extend_loop _]
    show wpAny _ A.in1 (pyNext (.ref z) >>= _) _ _ _
    refine wpAny_bind (zst_item (s := { s with heap := h, toks := tk }) D hst hSl (Array.getElem?_eq_getElem hix) (Array.getElem?_eq_getElem hiy) fun h' hst' ht hz hkp => ?_)
    dsimp only at ht hz hkp ⊢
    have hS' := hkp S _ O.z.symm O.TO.symm O.i1.symm O.i2.symm hS
    have up : ∀ b o, b ≠ S → h'.get? b = some o → (h'.update S (Obj.mapSeq (·.push (Value.ref h.objs.size)))).get? b = some o := fun b o hb e => (Heap.get?_update_other _ _ (Ne.symm hb)).trans e
    show wpAny _ A.in1 (updateSeq S (·.push (Value.ref h.objs.size)) >>= _) _ _ _
    refine wpAny_bind ?_
    refine wpAny_updateSeq hS' rfl (wpAny_pure ⟨plainId_quiet PySem.F.plain_extend_loop _, ih (i + 1) _ tk _ (acc.push (Value.ref h.objs.size)) (as ++ [h.objs.size]) (by omega) hlt (hst'.keep O up)
      (fun b o h1 h2 h3 h4 h5 e => up b o h1 (hkp b o h2 h3 h4 h5 (hkeep b o h1 h2 h3 h4 h5 e))) (Heap.get?_update_self _ hS' rfl) (by rw [Array.toList_push, hacc, List.map_append]; rfl) (by rw [List.length_append, hal]; rfl) ⟨?_, ?_, ?_⟩⟩) (by rw [hsz]; omega) (by show (acc.push (Value.ref h.objs.size)).size ≤ sizeLine + 1; rw [Array.size_push, hsz]; omega)
    · refine List.pairwise_append.mpr ⟨hG.rise, List.pairwise_singleton _ _, fun a ha b hb => ?_⟩
      rw [List.mem_singleton.mp hb]
      exact hG.there ha
    · intro a ha
      rcases List.mem_append.mp ha with ha | ha
      · exact hG.above a ha
      · rw [List.mem_singleton.mp ha]; exact hSl
    · intro j b hj
      rcases Nat.lt_trichotomy j as.length with h1 | h1 | h1
      · rw [List.getElem?_append_left h1] at hj
        obtain ⟨x, y, e1, e2, e3⟩ := hG.pairs j b hj
        have hab := hG.above b (List.mem_of_getElem? hj)
        exact ⟨x, y, e1, e2, up b _ (Nat.ne_of_gt hab) (hkp b _ (Nat.ne_of_gt (Nat.lt_trans hb.1 hab)) (Nat.ne_of_gt (Nat.lt_trans hb.2.1 hab)) (Nat.ne_of_gt (Nat.lt_trans hb.2.2.1 hab)) (Nat.ne_of_gt (Nat.lt_trans hb.2.2.2 hab)) e3)⟩
      · subst h1
        have hb : h.objs.size = b := by simpa using hj
        subst hb
        exact ⟨xs[i], ys[i], by rw [hal]; exact Array.getElem?_eq_getElem hix, by rw [hal]; exact Array.getElem?_eq_getElem hiy, up _ _ (Nat.ne_of_gt hSl) ht⟩
      · have hnone : (as ++ [h.objs.size])[j]? = none := List.getElem?_eq_none (by rw [List.length_append, List.length_singleton]; omega)
        rw [hnone] at hj; cases hj
end
end Fx
namespace Fx
open PySem PySem.Spec PyProof.Rows L2
theorem zip_no_len : typeLookup (.type "zip") "__len__" = pure none := by rw [typeLookup_type, builtinLookup_eq_fast]; kernel_rfl
theorem zip_no_hint : typeLookup (.type "zip") "__length_hint__" = pure none := by rw [typeLookup_type, builtinLookup_eq_fast]; kernel_rfl
theorem ZSt.typeIs {s : Shared} {z TI TO i1 i2 l1 l2 S : Addr} {xs ys : Array Value} {i : Nat} (x : ZSt s.heap z TI TO i1 i2 l1 l2 S xs ys i) : s.TypeIs (.ref z) "zip" := by
  rcases x.cell with ⟨_, hz⟩ | ⟨T, f, oa, hz, _⟩
  · exact ⟨_, hz, rfl⟩
  · exact ⟨_, hz, rfl⟩
section
variable {prog : Program} {w : World} {A : Around} {E : Value → Shared → Prop} {s : Shared}
theorem zp_extend {z TI TO i1 i2 l1 l2 S : Addr} {xs ys : Array Value} {n : Nat} {R : Result → Shared → Prop} (hh : A.handled = none) (D : ZipApart z TI TO i1 i2 l1 l2) (O : ZOff z TI TO i1 i2 l1 l2 S) (hb : z < S ∧ TO < S ∧ i1 < S ∧ i2 < S) (hn : n = min xs.size ys.size) (hn2 : n ≤ sizeLine) (res : Value) (c₀ : Nat)
    (st : IsZip s.heap z TI TO .none) (st' : ZSt s.heap z TI TO i1 i2 l1 l2 S xs ys 0) (hS : s.heap.get? S = some { cls := .type "list", data := .seq #[] c₀ })
    (hR : ∀ h' tk acc c as, (∀ b o, b ≠ S → b ≠ z → b ≠ TO → b ≠ i1 → b ≠ i2 → s.heap.get? b = some o → h'.get? b = some o) → h'.get? S = some { cls := .type "list", dict := none, data := .seq acc c, slots := #[] } → as.length = n → ZpG xs ys S h' as →
      acc.toList = as.map Value.ref → R (.ok (.ret res)) { s with heap := h', toks := tk }) :
    wpAny (model prog w) A.in1 (Builtin.List.listExtendWith (.ref S) (.ref z) res)
      (fun fin s' => match fin with | .done f => R (.ok f) s' | .again c' => c'.quiet = true ∧ codeAny (model prog w) A c' R s') (fun e s' => R (.error e) s') s := by
  have key : ∀ (h : Heap) (c₁ tk : Nat), (∀ b o, b ≠ S → s.heap.get? b = some o → h.get? b = some o) →
      h.get? S = some { cls := .type "list", data := .seq #[] c₁ } → codeAny (model prog w) A (.builtin "list.extend.loop" ⟨[.ref S, .ref z, res], []⟩) R { s with heap := h, toks := tk } := by
    intro h c₁ tk hk hS₁
    exact zp_loop (s := s) (h₁ := s.heap) hh D O hb hn hn2 res (fun h' tk' acc c as hk' hS' hl hG hacc => hR h' tk' acc c as hk' hS' hl hG hacc)
      n 0 h tk c₁ #[] [] (Nat.sub_zero _) (Nat.zero_le _) (st'.keep O hk) (fun b o hb _ _ _ _ e => hk b o hb e) hS₁ rfl rfl ⟨List.Pairwise.nil, (fun _ ha => nomatch ha), (fun j a hj => by simp at hj)⟩
  unfold Builtin.List.listExtendWith
  refine wpAny_bind (wpAny_typeOf (T := "zip") st'.typeIs ?_)
  have h1 : Builtin.List.listSameRef (.ref S) (.ref z) = false := by simp [Builtin.List.listSameRef, O.z.symm]
  have h2 : (Value.type "zip" == Value.type "list") = false := by decide
  have h3 : (Value.type "zip" == Value.type "tuple") = false := by decide
  simp only [h1, h2, h3, Bool.or_false, Bool.false_eq_true, if_false]
  refine wpAny_bind (wpAny_pyIter_zip st ?_)
  refine wpAny_bind (wpAny_holding ?_)
  unfold Builtin.List.listLengthHint
  refine wpAny_bind (wpAny_specialOf st'.typeIs zip_no_len ?_)
  show wpAny _ A.in1 (specialOf (Value.ref z) (Str.ofString "__length_hint__") >>= _) _ _ _
  refine wpAny_bind (wpAny_specialOf st'.typeIs zip_no_hint ?_)
  refine wpAny_pure ?_
  show wpAny _ A.in1 (rule "list.extend.makes-room" >>= fun _ => Builtin.List.listTouch (.ref S) >>= fun _ =>
    again (.builtin "list.extend.loop" ⟨[.ref S, .ref z, res], []⟩)) _ _ _
  refine wpAny_bind (wpAny_rule ?_)
  refine wpAny_bind ?_
  show wpAny _ _ (updateSeq S (·.push .none) >>= fun _ => updateSeq S (·.pop)) _ _ _
  refine wpAny_bind (wpAny_updateSeq hS rfl ?_)
  have hS₂ := Heap.get?_update_self (Obj.mapSeq (·.push Value.none)) hS rfl
  refine wpAny_updateSeq (hz := by seq_fits) hS₂ rfl ?_
  have hS₃ := Heap.get?_update_self (Obj.mapSeq (·.pop)) hS₂ rfl
  refine wpAny_pure ⟨plainId_quiet PySem.F.plain_extend_loop _, key _ _ _ (fun b o hb e => ?_) hS₃⟩
  exact (Heap.get?_update_other _ _ (Ne.symm hb)).trans ((Heap.get?_update_other _ _ (Ne.symm hb)).trans e)
theorem zp_init {z TI TO i1 i2 l1 l2 S : Addr} {xs ys : Array Value} {n : Nat} {R : Result → Shared → Prop} (hh : A.handled = none) (D : ZipApart z TI TO i1 i2 l1 l2) (O : ZOff z TI TO i1 i2 l1 l2 S) (hb : z < S ∧ TO < S ∧ i1 < S ∧ i2 < S) (hn : n = min xs.size ys.size) (hn2 : n ≤ sizeLine)
    (st : IsZip s.heap z TI TO .none) (st' : ZSt s.heap z TI TO i1 i2 l1 l2 S xs ys 0) (hS : s.heap.get? S = some { cls := .type "list", data := .seq #[] })
    (hR : ∀ h' tk acc c as, (∀ b o, b ≠ S → b ≠ z → b ≠ TO → b ≠ i1 → b ≠ i2 → s.heap.get? b = some o → h'.get? b = some o) → h'.get? S = some { cls := .type "list", dict := none, data := .seq acc c, slots := #[] } → as.length = n → ZpG xs ys S h' as →
      acc.toList = as.map Value.ref → R (.ok (.ret .none)) { s with heap := h', toks := tk }) :
    wpAny (model prog w) A.in1 (Builtin.«list.__init__» ⟨[.ref S, .ref z], []⟩)
      (fun fin s' => match fin with | .done f => R (.ok f) s' | .again c' => c'.quiet = true ∧ codeAny (model prog w) A c' R s') (fun e s' => R (.error e) s') s := by
  show wpAny _ _ (do let old ← Builtin.List.listItems (.ref S); Builtin.List.listUpdate (.ref S) (fun _ => #[]); letGo old.toList.reverse; Builtin.List.listExtendWith (.ref S) (.ref z) .none) _ _ s
  refine wpAny_bind ?_
  unfold Builtin.List.listItems
  refine wpAny_bind (wpAny_seqItems hS rfl (wpAny_pure ?_))
  show wpAny _ _ (updateSeq S (fun _ => #[]) >>= fun _ => letGo (#[] : Array Value).toList.reverse >>= fun _ => Builtin.List.listExtendWith (.ref S) (.ref z) .none) _ _ s
  refine wpAny_bind (wpAny_updateSeq hS rfl ?_)
  have hS₂ := Heap.get?_update_self (Obj.mapSeq (fun _ => (#[] : Array Value))) hS rfl
  have oth : ∀ b o, b ≠ S → s.heap.get? b = some o → (s.heap.update S (Obj.mapSeq (fun _ => (#[] : Array Value)))).get? b = some o :=
    fun b o hb e => (Heap.get?_update_other _ _ (Ne.symm hb)).trans e
  refine wpAny_bind (wpAny_letGo ?_)
  refine zp_extend hh D O hb hn hn2 .none _ (oth _ _ O.z st) (st'.keep O oth) hS₂ (fun h' tk acc c as hk hS' hl hG hacc => ?_)
  exact hR h' tk acc c as (fun b o h1 h2 h3 h4 h5 e => hk b o h1 h2 h3 h4 h5 (oth b o h1 e)) hS' hl hG hacc
theorem zp_call {z TI TO i1 i2 l1 l2 : Addr} {xs ys : Array Value} {n : Nat} {Q : Value → Shared → Prop} (hh : A.handled = none) (D : ZipApart z TI TO i1 i2 l1 l2) (hn : n = min xs.size ys.size) (hn2 : n ≤ sizeLine)
    (st : IsZip s.heap z TI TO .none) (pI : IsPair s.heap TI (.ref i1) (.ref i2)) (pO : ∃ a b, IsPair s.heap TO a b) (h1 : s.heap.IsListIter i1 l1 0) (h2 : s.heap.IsListIter i2 l2 0) (L1 : s.heap.IsList l1 xs) (L2 : s.heap.IsList l2 ys)
    (hQ : ∀ h' tk acc c as, (∀ b o, b ≠ z → b ≠ TO → b ≠ i1 → b ≠ i2 → s.heap.get? b = some o → h'.get? b = some o) → h'.get? s.heap.objs.size = some { cls := .type "list", dict := none, data := .seq acc c, slots := #[] } → as.length = n → ZpG xs ys s.heap.objs.size h' as →
      acc.toList = as.map Value.ref → Q (.ref s.heap.objs.size) { s with heap := h', toks := tk }) :
    wpAny (model prog w) A (call (.type "list") [.ref z]) Q E s := by
  refine callType_codes (Q₁ := fun obj s₁ => obj = .ref s.heap.objs.size ∧ s₁ = { s with heap := s.heap.push { cls := .type "list", data := .seq #[] } }) PySem.F.called_list (PySem.F.typeCall_list_1 _) PySem.F.entry_list_init
    (code_list_new _ ⟨rfl, rfl⟩) fun obj s₁ h₁ => ?_
  obtain ⟨rfl, rfl⟩ := h₁
  have hS : (s.heap.push { cls := .type "list", data := .seq #[] }).get? s.heap.objs.size = some { cls := .type "list", data := .seq #[] } := Heap.get?_push_size _ rfl
  have lz : z < s.heap.objs.size := Heap.lt_size st
  have lI : TI < s.heap.objs.size := Heap.lt_size pI
  have lO : TO < s.heap.objs.size := let ⟨_, _, e⟩ := pO; Heap.lt_size e
  have li1 : i1 < s.heap.objs.size := let ⟨_, e, _⟩ := h1; Heap.lt_size e
  have li2 : i2 < s.heap.objs.size := let ⟨_, e, _⟩ := h2; Heap.lt_size e
  have ll1 : l1 < s.heap.objs.size := let ⟨_, e, _⟩ := L1; Heap.lt_size e
  have ll2 : l2 < s.heap.objs.size := let ⟨_, e, _⟩ := L2; Heap.lt_size e
  have up : ∀ b o, s.heap.get? b = some o → (s.heap.push { cls := .type "list", data := .seq #[] }).get? b = some o := fun b o e => Heap.get?_push_of_some _ e
  refine ⟨⟨_, hS, rfl⟩, PySem.F.args_list_init_2 _ _, zp_init (A := A.in1) hh D ⟨Nat.ne_of_lt lz, Nat.ne_of_lt lI, Nat.ne_of_lt lO, Nat.ne_of_lt li1, Nat.ne_of_lt li2, Nat.ne_of_lt ll1, Nat.ne_of_lt ll2⟩ ⟨lz, lO, li1, li2⟩ hn hn2 (up _ _ st)
    ⟨.inl ⟨rfl, up _ _ st⟩, up _ _ pI, (let ⟨a, b, e⟩ := pO; ⟨a, b, up _ _ e⟩), h1.at fun o e => up _ o e, h2.at fun o e => up _ o e, L1.at fun o e => up _ o e, L2.at fun o e => up _ o e⟩ hS (fun h' tk acc c as hk hS' hl hG hacc => ?_)⟩
  exact ⟨rfl, hQ h' tk acc c as (fun b o h1 h2 h3 h4 e => hk b o (Nat.ne_of_lt (Heap.lt_size e)) h1 h2 h3 h4 (up b o e)) hS' hl hG hacc⟩
end
/-! ### the new tuples tracked -/
def putP : Hp → List Addr → List (V × V) → Hp
  | H, a :: as, p :: ps => putP (upd H a (.tup [p.1, p.2])) as ps
  | H, _, _ => H
theorem putP_off {b : Addr} : ∀ (as : List Addr) (ps : List (V × V)) (H : Hp), b ∉ as → putP H as ps b = H b
  | [], _, _, _ => rfl
  | _ :: _, [], _, _ => rfl
  | a :: as, p :: ps, H, h => by
    show putP (upd H a (.tup [p.1, p.2])) as ps b = H b
    rw [putP_off as ps _ (fun z => h (List.mem_cons_of_mem _ z)), upd_ne (fun z => h (by rw [z]; exact List.mem_cons_self))]
theorem putP_at : ∀ (as : List Addr) (ps : List (V × V)) (H : Hp), as.length = ps.length → as.Nodup → Paired (fun (t : Addr) (p : V × V) => putP H as ps t = some (.tup [p.1, p.2])) as ps
  | [], [], _, _, _ => .nil
  | [], _ :: _, _, h, _ => by cases h
  | _ :: _, [], _, h, _ => by cases h
  | a :: as, p :: ps, H, h, hn => by
    have hn' := List.nodup_cons.mp hn
    have ih := putP_at as ps (upd H a (.tup [p.1, p.2])) (Nat.succ.inj h) hn'.2
    refine .cons ?_ ih
    show putP (upd H a (.tup [p.1, p.2])) as ps a = some (.tup [p.1, p.2])
    rw [putP_off as ps _ hn'.1, upd_same]
section
variable {X : Cx}
theorem zp_laid {pins : List (Addr × Obj)} {σ : L2.St} {H : Hp} {s : Shared} {h' : Heap} {tk : Nat} {xs ys : List V} {us vs : List Value} {acc : Array Value} {c S : Nat} {as : List Addr} (I : Inv X pins σ H s) (hS0 : s.heap.objs.size ≤ S) (hx : Vals xs us) (hy : Vals ys vs) (hz : (List.zip xs ys).length ≤ sizeLine)
    (hk : ∀ b o, s.heap.get? b = some o → h'.get? b = some o) (hS : h'.get? S = some { cls := .type "list", dict := none, data := .seq acc c, slots := #[] }) (hl : as.length = (List.zip xs ys).length) (hG : ZpG us.toArray vs.toArray S h' as) (hacc : acc.toList = as.map Value.ref) :
    ∃ H' : Hp, (∀ b o, H b = some o → H' b = some o) ∧ H S = none ∧ H' S = some (.lst (as.map V.ref)) ∧ Paired (fun (t : Addr) (q : V × V) => H' t = some (.tup [q.1, q.2])) as (List.zip xs ys) ∧ Inv X pins σ H' { s with heap := h', toks := tk } := by
  have hSn : S ∉ as := fun z => Nat.lt_irrefl _ (hG.above _ z)
  have nd : as.Nodup := List.Pairwise.imp (fun {a b} (h : a < b) => Nat.ne_of_lt h) hG.rise
  have new : ∀ t ∈ as, H t = none := fun t ht => I.hok.fresh (Nat.le_trans hS0 (Nat.le_of_lt (hG.above t ht)))
  have newS : H S = none := I.hok.fresh hS0
  have atP := putP_at as (List.zip xs ys) (upd H S (.lst (as.map V.ref))) hl nd
  have off : ∀ b, b ∉ as → b ≠ S → putP (upd H S (.lst (as.map V.ref))) as (List.zip xs ys) b = H b := fun b h1 h2 => by rw [putP_off as _ _ h1, upd_ne h2]
  have low : ∀ b o, s.heap.get? b = some o → b ∉ as ∧ b ≠ S := fun b o e => ⟨fun z => absurd (Heap.lt_size e) (Nat.not_lt.mpr (Nat.le_trans hS0 (Nat.le_of_lt (hG.above b z)))), Nat.ne_of_lt (Nat.lt_of_lt_of_le (Heap.lt_size e) hS0)⟩
  have kp : ∀ b u, H b = some u → (putP (upd H S (.lst (as.map V.ref))) as (List.zip xs ys)) b = some u := fun b u e => by
    rw [off b (fun z => by rw [new b z] at e; cases e) (fun z => by rw [z, newS] at e; cases e)]
    exact e
  have eS : putP (upd H S (.lst (as.map V.ref))) as (List.zip xs ys) S = some (.lst (as.map V.ref)) := by rw [putP_off as _ _ hSn, upd_same]
  refine ⟨putP (upd H S (.lst (as.map V.ref))) as (List.zip xs ys), kp, newS, eS, atP, ?_⟩
  refine I.call' (ch := []) rfl ⟨fun b o q _ _ _ => hk b o q, fun b o q _ _ _ => ⟨o.slots, hk b o q⟩, fun b o q n _ => ?_, fun b o q _ => ⟨o, hk b o q⟩, fun b xs q => kp b _ q, fun b o u q => kp b _ q, fun b ps q => ⟨#[], by rw [kp b _ q]; simp⟩⟩ (fun b u q => ?_) I.bare fun b z => by simp at z
  · obtain ⟨z1, z2⟩ := low b o q
    rw [off b z1 z2]
    exact n
  · by_cases hb : b ∈ as
    · obtain ⟨j, pk, e1, e2, e3⟩ := LiI.paired_ix atP hb
      rw [e3] at q
      cases q
      obtain ⟨x, y, f1, f2, f3⟩ := hG.pairs j b e1
      rw [List.getElem?_zip_eq_some] at e2
      have r1 := hx.get e2.1
      have r2 := hy.get e2.2
      obtain ⟨x', g1, g2⟩ := r1
      obtain ⟨y', g3, g4⟩ := r2
      have : x = x' := by simpa [g1] using f1.symm
      subst this
      have : y = y' := by simpa [g3] using f2.symm
      subst this
      exact ⟨by show 2 ≤ sizeLine; decide, [x, y], .cons g2 (.cons g4 .nil), ⟨_, f3, rfl, _, rfl⟩⟩
    · by_cases hb2 : b = S
      · rw [hb2] at q ⊢
        rw [eS] at q
        cases q
        refine ⟨by rw [List.length_map]; omega, acc.toList, c, by rw [hacc]; exact LiI.vals_refs as, ?_⟩
        rw [Array.toArray_toList]
        exact hS
      · rw [off b hb hb2] at q
        exact (I.hok b u q).stay (fun d v _ y => hk d v y) (fun d y => kp d _ y) fun d xs y => kp d _ y
end
end Fx
/-! Fx11: short names for printed derivations; list(zip(..)). -/
namespace Fx
open PySem PySem.Spec PyProof.Rows L2
section
variable {X : Cx} {W : WX}
theorem gv (i : Nat) {x : Str} {pos : Pos} (hN : X.N[i]? = some x := by rfl) (hv : Vis X.env.scope x := by first | exact Or.inl rfl | exact Or.inr (Or.inl rfl) | exact Or.inr (Or.inr rfl)) (hd : (x == ("__debug__" : Str)) = false := by decide)
    (hcd : (x == ("__classdict__" : Str)) = false := by decide) : GE X W (.Name x pos) (varM i) := g_var hN hv hd hcd
theorem gg_nm (i : Nat) {x : Str} {pos : Pos} (hN : X.N.Nodup := by decide) (hi : X.N[i]? = some x := by rfl) (hx : Loc X.env.scope x := by first | exact Or.inl rfl | exact Or.inr rfl) (hf : X.fn x = true ∨ X.env.scope.names.lookup x = some .local := by first | exact .inl rfl | exact .inr rfl) : GG X W (.Name x pos) (nameG i) := gg_name hN hi hx hf
theorem ggv_nm (i : Nat) {vs : List Nat} {x : Str} {pos : Pos} (hv : i ∈ vs := by decide) (hN : X.N.Nodup := by decide) (hi : X.N[i]? = some x := by rfl) (hx : Loc X.env.scope x := by first | exact Or.inl rfl | exact Or.inr rfl) (hf : X.fn x = true ∨ X.env.scope.names.lookup x = some .local := by first | exact .inl rfl | exact .inr rfl) : GGv X vs (.Name x pos) (nameG i) := ggv_name hv hN hi hx hf
theorem g_globI {x : Str} {i : Int} {pos : Pos} (hg : Gl X x) (hm : ∃ t, X.mg x = some (.int i t)) (hd : (x == ("__debug__" : Str)) = false := by decide) : GE X W (.Name x pos) (conM (.int i)) := by
  obtain ⟨t, hm⟩ := hm
  exact g_glob (v := .int i) hg hm ⟨t, rfl⟩ (fun _ _ => .int) hd
theorem g_globS {x z : Str} {pos : Pos} (hg : Gl X x) (hm : ∃ t, X.mg x = some (.str z t)) (hd : (x == ("__debug__" : Str)) = false := by decide) : GE X W (.Name x pos) (conM (.str z)) := by
  obtain ⟨t, hm⟩ := hm
  exact g_glob (v := .str z) hg hm ⟨t, rfl⟩ (fun _ _ => .str) hd
end
theorem tChain_of {X : Cx} {W : WX} {f g : F2} {r r' : R2} {ma mb mc : EM} (hf : OpG X.K f r) (hg : OpG X.K g r') {σ : St} {H : Hp} {Q : VK} (h : tG X.K W (chainM f g ma mb mc) σ H Q) : tChain r r' (tG X.K W ma) (tG X.K W mb) (tG X.K W mc) σ H Q := by
  obtain ⟨ρ, δ, st, k, s, h⟩ := h
  refine ⟨ρ, δ, st, k, s, (Post.bind (rel := Rl) h).imp fun v H1 ⟨ρ1, x, st1, e1, k1, r1, h1⟩ => ?_⟩
  refine ⟨ρ1, δ, st1, k1, s.mono e1, (Post.bind (rel := Rl) h1).imp fun u H2 ⟨ρ2, y, st2, e2, k2, r2, h2⟩ => ?_⟩
  refine hf ρ2 st2 H2 x y v u _ _ k2 (r1.mono e2) r2 ((Post.bind (rel := Rl) h2).imp fun z H3 ⟨ρ3, zd, st3, e3, k3, r3, h3⟩ => ?_)
  split at h3
  · cases r3
    refine ⟨true, rfl, iteT ?_⟩
    refine ⟨ρ3, δ, st3, k3, (s.mono e1).mono (e2.trans e3), (Post.bind (rel := Rl) h3).imp fun w H4 ⟨ρ4, wd, st4, e4, k4, r4, h4⟩ => ?_⟩
    exact hg ρ4 st4 H4 y wd u w _ Q k4 (r2.mono (e3.trans e4)) r4 h4
  · cases r3
    exact ⟨false, rfl, iteF (h3.now k3 .bl)⟩
  · exact h3.elim
theorem gt_chn {X : Cx} {W : WX} {a b c : Expr} {pos : Pos} {op op' : CmpOp} {f g : F2} {r r' : R2} {m n l : EM} (ho : OpR X (compareOp op) r) (ho' : OpR X (compareOp op') r') (hf : OpG X.K f r) (hg : OpG X.K g r') (ha : GE X W a m) (hb : GE X W b n) (hc : GE X W c l)
    (hm : lastMarks [op, op'] [b, c] = false := by with_unfolding_all rfl) : GT X W (.Compare a [op, op'] [b, c] pos) (asB (chainM f g m n l)) := by
  refine PTw (pt_chain ho ho' ha hb hc hm) fun σ H Q ⟨ρ, δ, st, k, s, h⟩ => ?_
  refine tChain_of (Q := fun x H' => ∃ k, x = .bl k ∧ Q k H') hf hg ⟨ρ, δ, st, k, s, (Post.bind (rel := Rl) h).imp fun v H1 ⟨ρ1, x, st1, e1, k1, r1, h1⟩ => ?_⟩
  split at h1
  · cases r1; exact ⟨_, rfl, h1.now k1 rfl⟩
  · exact h1.elim
theorem g_callR {X : Cx} {W : WX} {k nn : Nat} {f : Addr} {fd : FuncData} {ps : List Str} {Fm : FM} {x : Str} {p pos : Pos} {e : Expr} {es : List Expr} {am : AM} {A0 : Around} (ha : GA X W (e :: es) am) (F : FnG X.prog X.w X.K X.mg X.base k f fd ps Fm) (hr : Room k A0) (hg : Gl X x) (hm : X.mg x = some (.ref f)) (hk : PySem.W.keepIn X.K (.ref f) = true) (hb : Binds X.K fd ps []) (tk : Takes X W) (hA : X.A = A0 := by rfl) (hn : ps.length = nn := by rfl)
    (hdb : (x == ("__debug__" : Str)) = false := by decide) (he : starEach (e :: es) X.env = (false, eval e X.env) :: starEach es X.env := by rfl) (hpl : (backTo pos (starEach es X.env)).any (·.1) = false := by rfl) :
    GE X W (.Call (.Name x p) (e :: es) [] pos) (callM nn Fm am) := by
  subst hA; subst hn
  exact g_call F hr trivial hg hm hk hb tk ha hdb he hpl
theorem g_callR0 {X : Cx} {W : WX} {k nn : Nat} {f : Addr} {fd : FuncData} {ps : List Str} {Fm : FM} {x : Str} {p pos : Pos} {A0 : Around} (F : FnG X.prog X.w X.K X.mg X.base k f fd ps Fm) (hr : Room k A0) (hg : Gl X x) (hm : X.mg x = some (.ref f)) (hk : PySem.W.keepIn X.K (.ref f) = true) (hb : Binds X.K fd ps []) (tk : Takes X W) (hA : X.A = A0 := by rfl) (hn : ps.length = nn := by rfl)
    (hdb : (x == ("__debug__" : Str)) = false := by decide) : GE X W (.Call (.Name x p) [] [] pos) (callM nn Fm nilM) := by
  subst hA; subst hn
  exact g_call0 F hr trivial hg hm hk hb tk hdb
abbrev ltF : F2 := cmpI fun i j => decide (i < j)
abbrev leF : F2 := cmpI fun i j => decide (i ≤ j)
section
variable {X : Cx} {W : WX} {P : Program} {w : World} {K : PySem.W.Frag} {mg : Str → Option Value} {base : Heap} {N : List Str} {scope : Scope} {k : Nat}
theorem Body.u200 (B : Body X W P w K mg base N scope k) : X.A.units + 200 < cLine := by have := B.room.un; omega
theorem Body.u66 (B : Body X W P w K mg base N scope k) : X.A.units + 66 < cLine := by have := B.u200; omega
theorem Body.u64 (B : Body X W P w K mg base N scope k) : X.A.units + 64 < cLine := by have := B.u200; omega
theorem Body.u2 (B : Body X W P w K mg base N scope k) : X.A.units + 2 < cLine := by have := B.u200; omega
theorem Body.u1 (B : Body X W P w K mg base N scope k) : X.A.units + 1 < cLine := by have := B.u200; omega
end
def catch1 (x : Str) : Str → Option Bool := fun C => if C = x then some true else none
theorem catch1_ok {K : PySem.W.Frag} {x : Str} (h : PySem.W.exmOne K (.ref (He.ga K x)) (.ref (He.ga K x)) = some true) : ∀ C b, catch1 x C = some b → PySem.W.exmOne K (.ref (He.ga K C)) (.ref (He.ga K x)) = some b := fun C b e => by
  unfold catch1 at e
  split at e
  · rename_i ec; cases e; rw [ec]; exact h
  · cases e
/-- whether the first argument is a sequence whose first item is a tuple -/
def wantsT (ds : List D) (st : Store) : Bool := match ds with
  | [d] => match seqOf d st with
    | some (.tup _ :: _) => true
    | _ => false
  | _ => false
theorem fn_or {P : Program} {w : World} {K : PySem.W.Frag} {mg : Str → Option Value} {base : Heap} {k : Nat} {f : Addr} {fd : FuncData} {ps : List Str} {F G : FM} {c : List D → Store → Bool} (hF : FnG P w K mg base k f fd ps F) (hG : FnG P w K mg base k f fd ps G) :
    FnG P w K mg base k f fd ps (fun ds st => if c ds st = true then F ds st else G ds st) := ⟨fun A outer s H args us vs Q E hr gd e0 hb hv ⟨hl, ρ, ds, st, k, r, q⟩ => by
  simp only at q
  split at q
  · exact hF.run A outer s H args us vs Q E hr gd e0 hb hv ⟨hl, ρ, ds, st, k, r, q⟩
  · exact hG.run A outer s H args us vs Q E hr gd e0 hb hv ⟨hl, ρ, ds, st, k, r, q⟩⟩
/-! ### list(zip(xs, ys)) -/
def lzipM (am : AM) : EM := fun δ st => (am δ st).bind fun ds st => match ds with
  | [.loc l, .loc l'] => match st[l]?, st[l']? with
    | some (.lst xs), some (.lst ys) => .ok (.loc st.length) (st ++ [.lst (zipL xs ys)])
    | _, _ => .stuck
  | _ => .stuck
theorem Ok.grow {K ρ st H H'} (k : Ok K ρ st H) (kp : ∀ b o, H b = some o → H' b = some o) : Ok K ρ st H' where
  len := k.len
  nd := k.nd
  ob := fun n m a hs hr => by
    have c := k.ob n m a hs hr
    obtain ⟨o', ho, _⟩ := c.has
    exact c.im (fun b xs e => kp b _ e) ((kp _ _ ho).trans ho.symm)
theorem Ok.snoc {K ρ st H} {mo : MO} {p : Addr} (k : Ok K ρ st H) (hp : p ∉ ρ) (hc : Co K (ρ ++ [p]) H p mo) : Ok K (ρ ++ [p]) (st ++ [mo]) H where
  len := by simp [k.len]
  nd := by
    rw [List.nodup_append]
    exact ⟨k.nd, by simp, fun a ha b hb e => by rw [List.mem_singleton.mp hb] at e; exact hp (e ▸ ha)⟩
  ob := fun n m a hs hr => by
    by_cases hn : n < st.length
    · rw [List.getElem?_append_left hn] at hs
      rw [List.getElem?_append_left (by rw [k.len]; exact hn)] at hr
      exact (k.ob n m a hs hr).mono ⟨⟨[p], rfl⟩, fun _ _ h => h, fun _ _ _ h => h⟩ rfl
    · rw [List.getElem?_append_right (by omega)] at hs
      rw [List.getElem?_append_right (by rw [k.len]; omega)] at hr
      obtain ⟨h0, e1⟩ := List.getElem?_eq_some_iff.mp hs
      have hz : n - st.length = 0 := by simp at h0; omega
      have hz' : n - ρ.length = 0 := by rw [k.len]; exact hz
      simp only [hz] at hs; simp only [hz'] at hr
      simp at hs hr; subst hs; subst hr
      exact hc
theorem Ok.new_notin {K ρ st H} (k : Ok K ρ st H) {p : Addr} (hp : H p = none) : p ∉ ρ := fun hm => by
  obtain ⟨n, hn, e⟩ := List.mem_iff_getElem.mp hm
  have hn2 : n < st.length := by rw [← k.len]; exact hn
  obtain ⟨o, ho, _⟩ := (k.ob n st[n] p (by simp [hn2]) (by simp [hn, e])).has
  rw [hp] at ho
  cases ho
theorem rl_pairs {ρ : List Addr} {H : Hp} : ∀ {xs ys : List D} {vs us : List V} {as : List Addr}, RlL ρ H xs vs → RlL ρ H ys us → Paired (fun (t : Addr) (q : V × V) => H t = some (.tup [q.1, q.2])) as (List.zip vs us) → RlL ρ H (zipL xs ys) (as.map V.ref)
  | _, _, _, _, _, .nil, _, h => by
    simp only [List.zip_nil_left] at h
    cases h
    simp [zipL]; exact .nil
  | _, _, _, _, _, .cons _ _, .nil, h => by
    simp only [List.zip_nil_right] at h
    cases h
    simp [zipL]; exact .nil
  | _, _, _, _, _, .cons r q, .cons r' q', h => by
    rw [List.zip_cons_cons] at h
    cases h with
    | cons h hh =>
      exact .cons (.tup h (by show 2 ≤ sizeLine; decide) (.cons r (.cons r' .nil))) (rl_pairs q q' hh)
section
variable {X : Cx}
def tLZip (K : PySem.W.Frag) (ta : TA) : TE := fun σ H Q => ta σ H fun ws H1 => ∃ (a b : Addr) (xs ys : List V), ws = [.ref a, .ref b] ∧ SqL K H1 a xs ∧ SqL K H1 b ys ∧
  ∀ (H' : Hp) (S : Addr) (as : List Addr), (∀ b o, H1 b = some o → H' b = some o) → H1 S = none → H' S = some (.lst (as.map V.ref)) → as.length ≤ sizeLine → Paired (fun (t : Addr) (q : V × V) => H' t = some (.tup [q.1, q.2])) as (List.zip xs ys) → Q (.ref S) H'
theorem pe_lzip {e e2 : Expr} {ta : TA} {p p2 q pos : Pos} (hc : X.calm = true) (hg : Gl X "list") (hm : X.mg "list" = none) (hg2 : Gl X "zip") (hm2 : X.mg "zip" = none) (ha : PA X [e, e2] ta)
    (na : starEach [.Call (.Name "zip" p2) [e, e2] [] q] X.env = (false, eval (.Call (.Name "zip" p2) [e, e2] [] q) X.env) :: starEach [] X.env := by rfl)
    (hs : starEach [e, e2] X.env = (false, eval e X.env) :: starEach [e2] X.env := by rfl) (hpl : (backTo q (starEach [e2] X.env)).any (·.1) = false := by rfl) :
    PE X (.Call (.Name "list" p) [.Call (.Name "zip" p2) [e, e2] [] q] [] pos) (tLZip X.K ta) := by
  refine ⟨fun pins s σ H Q I h => ?_⟩
  refine Call_ (ld_blt I hg hm PyProof.Rows.boot_list ?_)
  refine PyProof.Rows.callWith_type1 (PyProof.Rows.args_cons ?_ na) na rfl
  refine Call_ (ld_blt I hg2 hm2 PyProof.Rows.boot_zip (PyProof.Rows.callWith_type1 (thn (ha.run q pins s σ H _ I h) fun us s1 ⟨vs, H1, I1, r1, q1⟩ => ?_) hs hpl))
  obtain ⟨a, b, xs, ys, ex, hqx, hqy, q1⟩ := q1
  subst ex
  cases r1 with
  | cons r rr =>
    cases rr with
    | cons r' rr =>
      cases rr
      cases r
      cases r'
      obtain ⟨its, rv, p1, hz1⟩ := I1.list hqx
      obtain ⟨its2, rv2, p2, hz2⟩ := I1.list hqy
      have e1 := rv.length
      have e2 := rv2.length
      refine call_zip_2 p1.isList p2.isList fun h' hz hTI hTO h1 h2 hsz hk => ?_
      refine PyProof.Rows.args_nil ?_
      refine zp_call (s := { s1 with heap := h' }) (I1.ok.hd hc) (PySem.W.ktu_apart s1.heap.objs.size a b p1.lt p2.lt) (n := (List.zip xs ys).length) (by simp; omega) (by simp; omega) hz hTI ⟨_, _, hTO⟩ h1 h2 (p1.isList.at fun o e => hk _ o e) (p2.isList.at fun o e => hk _ o e) fun h'' tk acc c as hk2 hS hl hG hacc => ?_
      dsimp only at hS hG ⊢
      have hk3 : ∀ b o, s1.heap.get? b = some o → h''.get? b = some o := fun b o e => by
        have := Heap.lt_size e
        exact hk2 b o (Nat.ne_of_lt (Nat.lt_of_lt_of_le this (Nat.le_add_right _ _))) (Nat.ne_of_lt (Nat.lt_of_lt_of_le this (Nat.le_add_right _ _))) (Nat.ne_of_lt this) (Nat.ne_of_lt (Nat.lt_of_lt_of_le this (Nat.le_add_right _ _))) (hk b o e)
      obtain ⟨H', k1, k2, k3, k4, J⟩ := zp_laid (tk := tk) I1 (by omega) rv rv2 (by simp; omega) hk3 hS hl hG hacc
      exact ⟨.ref _, H', J, rfl, q1 H' _ as k1 k2 k3 (by rw [hl]; simp; omega) k4⟩
end
theorem g_lzip {X : Cx} {W : WX} {e e2 : Expr} {am : AM} {p p2 q pos : Pos} (hc : X.calm = true) (hg : Gl X "list") (hm : X.mg "list" = none) (hg2 : Gl X "zip") (hm2 : X.mg "zip" = none) (ha : GA X W [e, e2] am)
    (na : starEach [.Call (.Name "zip" p2) [e, e2] [] q] X.env = (false, eval (.Call (.Name "zip" p2) [e, e2] [] q) X.env) :: starEach [] X.env := by rfl)
    (hs : starEach [e, e2] X.env = (false, eval e X.env) :: starEach [e2] X.env := by rfl) (hpl : (backTo q (starEach [e2] X.env)).any (·.1) = false := by rfl) :
    GE X W (.Call (.Name "list" p) [.Call (.Name "zip" p2) [e, e2] [] q] [] pos) (lzipM am) := by
  refine PEw (pe_lzip hc hg hm hg2 hm2 ha na hs hpl) fun σ H Q ⟨ρ, δ, st, k, s, h⟩ => ?_
  refine ⟨ρ, δ, st, k, s, (Post.bind (rel := RlL) h).imp fun vs H1 ⟨ρ1, ds, st1, x1, k1, r1, h1⟩ => ?_⟩
  split at h1
  · split at h1
    · rename_i hs hs'
      cases r1 with
      | cons r1 q1 =>
        cases q1 with
        | cons r2 q2 =>
          cases q2
          cases r1 with
          | loc hr =>
            cases r2 with
            | loc hr' =>
              obtain ⟨vs, hv, hz, q⟩ := k1.lstAt hr hs
              obtain ⟨us, hv', hz', q'⟩ := k1.lstAt hr' hs'
              refine ⟨_, _, vs, us, rfl, SqL.of hv, SqL.of hv', fun H' S as kp h0 hS hz hP => ?_⟩
              have x2 : Ext ρ1 H1 (ρ1 ++ [S]) H' := ⟨⟨[S], rfl⟩, fun b xs e => kp b _ e, fun b o u e => kp b _ e⟩
              have k2 := (k1.grow kp).snoc (k1.new_notin h0) (mo := .lst (zipL _ _)) ⟨as.map V.ref, hS, by rw [List.length_map]; exact hz, rl_pairs (q.mono x2) (q'.mono x2) hP⟩
              exact h1 (ρ1 ++ [S]) H' (.ref S) x2 k2 (.loc (by rw [← k1.len]; simp))
    · exact h1.elim
  · exact h1.elim
end Fx
/-! Ev: how mirrors compute. -/
namespace Fx
open PySem PySem.Spec PyProof.Rows L2

/-! ### stores -/
section
variable {st t : Store} {mo x : MO} {l k : Nat}
@[simp] theorem at_len : (st ++ t)[st.length]? = t[0]? := by rw [List.getElem?_append_right (Nat.le_refl _), Nat.sub_self]
@[simp] theorem at_len_add : (st ++ t)[st.length + k]? = t[k]? := by rw [List.getElem?_append_right (by omega), Nat.add_sub_cancel_left]
@[simp] theorem set_len : (st ++ t).set st.length x = st ++ t.set 0 x := by rw [List.set_append_right _ _ (Nat.le_refl _), Nat.sub_self]
@[simp] theorem set_len_add : (st ++ t).set (st.length + k) x = st ++ t.set k x := by rw [List.set_append_right _ _ (by omega), Nat.add_sub_cancel_left]
theorem at_old (h : st[l]? = some mo) : (st ++ t)[l]? = some mo := by rw [List.getElem?_append_left (List.getElem?_eq_some_iff.mp h).1, h]
theorem lt_old (h : st[l]? = some mo) : l < st.length := (List.getElem?_eq_some_iff.mp h).1
end

/-! ### unfolding -/

/-! ### garbage -/
mutual
theorem lows_mono {n m : Nat} (h : n ≤ m) : ∀ {d : D}, d.lows n = true → d.lows m = true
  | .loc l, e => by
    unfold D.lows at e ⊢
    exact decide_eq_true (Nat.lt_of_lt_of_le (of_decide_eq_true e) h)
  | .tup ds, e => by
    unfold D.lows at e ⊢
    exact lowsL_mono h e
  | .non, _ => by simp [D.lows]
  | .bl _, _ => by simp [D.lows]
  | .int _, _ => by simp [D.lows]
  | .str _, _ => by simp [D.lows]
  | .kl _, _ => by simp [D.lows]
theorem lowsL_mono {n m : Nat} (h : n ≤ m) : ∀ {ds : List D}, D.lowsL n ds = true → D.lowsL m ds = true
  | [], _ => by simp [D.lowsL]
  | d :: ds, e => by
    unfold D.lowsL at e ⊢
    obtain ⟨a, b⟩ := Bool.and_eq_true_iff.mp e
    rw [lows_mono h a, lowsL_mono h b]; rfl
end
theorem lowsL_all {n : Nat} : ∀ {ds : List D}, (∀ d ∈ ds, d.lows n = true) → D.lowsL n ds = true
  | [], _ => by simp [D.lowsL]
  | d :: ds, h => by
    unfold D.lowsL
    rw [h d (List.mem_cons_self ..), lowsL_all fun x hx => h x (List.mem_cons_of_mem _ hx)]; rfl
@[simp] theorem lows_non {n} : D.lows n .non = true := by simp [D.lows]
@[simp] theorem lows_bl {n b} : D.lows n (.bl b) = true := by simp [D.lows]
@[simp] theorem lows_int {n i} : D.lows n (.int i) = true := by simp [D.lows]
@[simp] theorem lows_str {n x} : D.lows n (.str x) = true := by simp [D.lows]
@[simp] theorem lows_kl {n a} : D.lows n (.kl a) = true := by simp [D.lows]
@[simp] theorem lows_loc {n l} : D.lows n (.loc l) = decide (l < n) := by simp [D.lows]
@[simp] theorem lows_tup {n ds} : D.lows n (.tup ds) = D.lowsL n ds := by simp [D.lows]
@[simp] theorem lowsL_nil {n} : D.lowsL n [] = true := by simp [D.lowsL]
@[simp] theorem lowsL_cons {n d ds} : D.lowsL n (d :: ds) = (D.lows n d && D.lowsL n ds) := by rw [D.lowsL]
theorem gc_val {st t : Store} {d : D} (h : d.lows st.length = true) : gc st (.ok d (st ++ t)) = .ok d st := by
  have c : Clean st (st ++ t) := ⟨by simp, fun i mo hi hm => .inl (by rwa [List.getElem?_append_left hi] at hm)⟩
  simp only [gc, if_pos c, if_pos h, List.take_left]
theorem gc_loc {st t : Store} {k : Nat} {mo : MO} (hk : t[k]? = some mo) (h : mo.lows st.length = true) : gc st (.ok (.loc (st.length + k)) (st ++ t)) = .ok (.loc st.length) (st ++ [mo]) := by
  have c : Clean st (st ++ t) := ⟨by simp, fun i mo hi hm => .inl (by rwa [List.getElem?_append_left hi] at hm)⟩
  have n : ¬ D.lows st.length (.loc (st.length + k)) = true := by simp [D.lows]
  simp only [gc, if_pos c, if_neg n, at_len_add, hk, if_pos h, List.take_left]
theorem gc_loc0 {st t : Store} {mo : MO} (h : mo.lows st.length = true) : gc st (.ok (.loc st.length) (st ++ mo :: t)) = .ok (.loc st.length) (st ++ [mo]) := gc_loc (k := 0) rfl h
theorem gc_same {st st' : Store} {d : D} (hl : st'.length = st.length) (h : d.lows st.length = true) : gc st (.ok d st') = .ok d st' := by
  unfold gc
  simp only
  split
  · rw [← hl, List.take_length]
  · rfl
@[simp] theorem gc_id {st : Store} {d : D} (h : d.lows st.length = true) : gc st (.ok d st) = .ok d st := gc_same rfl h
theorem gc_err {st t : Store} {C : Str} : gc st (.err C [] (st ++ t)) = .err C [] st := by
  have c : Clean st (st ++ t) := ⟨by simp, fun i mo hi hm => .inl (by rwa [List.getElem?_append_left hi] at hm)⟩
  simp [gc, c]
theorem gc_err0 {st : Store} {C : Str} : gc st (.err C [] st) = .err C [] st := by
  have := gc_err (st := st) (t := []) (C := C)
  simpa using this
theorem gcM_eq {m : EM} {δ st r r'} (h : m δ st = r) (h' : gc st r = r') : gcM m δ st = r' := by unfold gcM; rw [h, h']

/-! ### loops -/
def stepOk (r : SRes) (P : En → Store → Prop) (Q : SRes → Prop) : Prop := match r with
  | .ok .nx δ st => P δ st
  | .ok .ct δ st => P δ st
  | .ok .bk δ st => Q (.ok .nx δ st)
  | .ok (.rt d) δ st => Q (.ok (.rt d) δ st)
  | .err C fs δ st => Q (.err C fs δ st)
  | .stuck => False
theorem forGo_rule {gs : List (Nat × MO)} {g : TGM} {b : SM} {Q : SRes → Prop} : ∀ (xs : List D) (I : List D → En → Store → Prop),
    (∀ x xs δ st, I (x :: xs) δ st → gok gs st ∧ ∃ δ1 st1, g x δ st = .ok .nx δ1 st1 ∧ stepOk (b δ1 st1) (I xs) Q) → (∀ δ st, I [] δ st → gok gs st ∧ Q (.ok .nx δ st)) → ∀ δ st, I xs δ st → Q (forGo gs g b xs δ st)
  | [], I, _, h0, δ, st, i => by
    obtain ⟨h1, h2⟩ := h0 δ st i
    unfold forGo
    rw [if_pos h1]; exact h2
  | x :: xs, I, h, h0, δ, st, i => by
    obtain ⟨h1, δ1, st1, e, h2⟩ := h x xs δ st i
    unfold forGo
    rw [if_pos h1, e]
    simp only
    cases hb : b δ1 st1 with
    | ok o δ2 st2 =>
      rw [hb] at h2
      cases o with
      | nx => exact forGo_rule xs I h h0 _ _ h2
      | ct => exact forGo_rule xs I h h0 _ _ h2
      | bk => exact h2
      | rt d => exact h2
    | err C fs δ2 st2 => rw [hb] at h2; exact h2
    | stuck => rw [hb] at h2; exact h2.elim
theorem forGo_nil {gs : List (Nat × MO)} {g : TGM} {b : SM} {δ st} (h : gok gs st) : forGo gs g b [] δ st = .ok .nx δ st := by unfold forGo; rw [if_pos h]
theorem forGo_cons {gs : List (Nat × MO)} {g : TGM} {b : SM} {x : D} {xs : List D} {δ st δ1 st1 δ2 st2} (h : gok gs st) (e : g x δ st = .ok .nx δ1 st1) (e2 : b δ1 st1 = .ok .nx δ2 st2) : forGo gs g b (x :: xs) δ st = forGo gs g b xs δ2 st2 := by
  conv => lhs; unfold forGo
  rw [if_pos h, e]
  simp only [e2]
theorem whileS_rule {c : BM} {b : SM} {Q : SRes → Prop} (I : Nat → En → Store → Prop)
    (h : ∀ n δ st, I n δ st → (∃ st1, c δ st = .ok false st1 ∧ Q (.ok .nx δ st1)) ∨ ∃ st1, c δ st = .ok true st1 ∧ stepOk (b δ st1) (fun δ' st' => ∃ m, m < n ∧ I m δ' st') Q) : ∀ n δ st, I n δ st → Q (whileS c b δ st) := by
  have key : ∀ n δ st, I n δ st → ∃ r, whileN c b (n + 1) δ st = some r ∧ Q r := by
    intro n
    induction n using Nat.strongRecOn with
    | ind n ih =>
      intro δ st i
      unfold whileN
      rcases h n δ st i with ⟨st1, e, q⟩ | ⟨st1, e, q⟩
      · rw [e]; exact ⟨_, rfl, q⟩
      · rw [e]
        simp only
        have more : ∀ {δ' st'}, (∃ m, m < n ∧ I m δ' st') → ∃ r, whileN c b n δ' st' = some r ∧ Q r := by
          rintro δ' st' ⟨m, hm, i'⟩
          obtain ⟨r, e', q'⟩ := ih m hm δ' st' i'
          exact ⟨r, whileN_mono e' hm, q'⟩
        cases hb : b δ st1 with
        | ok o δ2 st2 =>
          rw [hb] at q
          cases o with
          | nx => exact more q
          | ct => exact more q
          | bk => exact ⟨_, rfl, q⟩
          | rt d => exact ⟨_, rfl, q⟩
        | err C fs δ2 st2 => rw [hb] at q; exact ⟨_, rfl, q⟩
        | stuck => rw [hb] at q; exact q.elim
  intro n δ st i
  obtain ⟨r, e, q⟩ := key n δ st i
  rw [whileS_of e]; exact q
/-! ### comprehensions -/
theorem lcGo_cl {gs : List (Nat × MO)} {g : TGM} {c : BM} {e : EM} {δ : En} {n : Nat} : ∀ (xs : List D) (st : Store), lcGo gs g c e δ n xs st = (clGo gs g c (addEl e n) δ xs st).bind fun _ st => .ok (.loc n) st
  | [], st => by
    unfold lcGo clGo
    split <;> rfl
  | x :: xs, st => by
    unfold lcGo clGo
    split
    · cases hg : g x δ st with
      | ok o δ1 st1 =>
        cases o with
        | nx =>
          simp only
          cases hc : c δ1 st1 with
          | ok b st2 =>
            cases b with
            | true =>
              simp only [addEl]
              cases he : e δ1 st2 with
              | ok d st3 =>
                simp only
                cases hq : st3[n]? with
                | none => rfl
                | some mo =>
                  cases mo with
                  | lst ds =>
                    simp only
                    by_cases hz : ds.length < sizeLine
                    · rw [if_pos hz, if_pos hz]; exact lcGo_cl xs _
                    · rw [if_neg hz, if_neg hz]; rfl
                  | _ => rfl
              | err _ _ _ => rfl
              | stuck => rfl
            | false => exact lcGo_cl xs _
          | err _ _ _ => rfl
          | stuck => rfl
        | rt _ => rfl
        | bk => rfl
        | ct => rfl
      | err _ _ _ _ => rfl
      | stuck => rfl
    · rfl
/-- a clause that carries a state -/
theorem clGo_fold {σ : Type} {gs : List (Nat × MO)} {g : TGM} {c : BM} {f : En → Store → Res Unit} {δ : En} (R : σ → Store) (P : List D → σ → Prop) (nxt : σ → D → σ) :
    ∀ (xs : List D) (s : σ), P xs s → (∀ s, gok gs (R s)) →
    (∀ x xs s, P (x :: xs) s → P xs (nxt s x) ∧ ∃ δ1, g x δ (R s) = .ok .nx δ1 (R s) ∧ ((c δ1 (R s) = .ok true (R s) ∧ f δ1 (R s) = .ok () (R (nxt s x))) ∨ (c δ1 (R s) = .ok false (R s) ∧ R (nxt s x) = R s))) →
    clGo gs g c f δ xs (R s) = .ok () (R (xs.foldl nxt s))
  | [], s, _, hg, _ => by unfold clGo; rw [if_pos (hg s)]; rfl
  | x :: xs, s, hp, hg, h => by
    obtain ⟨h1, δ1, e1, h2⟩ := h x xs s hp
    unfold clGo
    rw [if_pos (hg s), e1]
    simp only
    rcases h2 with ⟨e2, e3⟩ | ⟨e2, e3⟩
    · rw [e2]
      simp only
      rw [e3]
      simp only
      exact clGo_fold R P nxt xs _ h1 hg h
    · rw [e2]
      simp only
      rw [← e3]
      exact clGo_fold R P nxt xs _ h1 hg h
theorem gok_app {gs : List (Nat × MO)} {st t : Store} (h : gok gs st) : gok gs (st ++ t) := fun g hg => at_old (h g hg)
theorem foldl_app {α β : Type} (f : α → List β) (xs : List α) : ∀ acc : List β, xs.foldl (fun a x => a ++ f x) acc = acc ++ (xs.map f).flatten := by
  induction xs with
  | nil => intro acc; simp
  | cons x xs ih => intro acc; rw [List.foldl_cons, ih]; simp
/-- each item gives an item -/
theorem lcM_map {im : IM} {g : TGM} {c : BM} {e : EM} {vs : List Nat} {δ : En} {st st0 : Store} {it : ItD} (him : im δ st = .ok it st0) (F : D → D) (hg : gok it.gs st0) (hl : it.xs.length ≤ sizeLine)
    (hx : ∀ x ∈ it.xs, ∀ acc : List D, ∃ δ1, g x (wipeD δ vs) (st0 ++ [.lst acc]) = .ok .nx δ1 (st0 ++ [.lst acc]) ∧ c δ1 (st0 ++ [.lst acc]) = .ok true (st0 ++ [.lst acc]) ∧ e δ1 (st0 ++ [.lst acc]) = .ok (F x) (st0 ++ [.lst acc])) :
    lcM im g c e vs δ st = .ok (.loc st0.length) (st0 ++ [.lst (it.xs.map F)]) := by
  unfold lcM
  rw [him]
  simp only [Res.bind_ok]
  rw [lcGo_cl, clGo_fold (σ := List D) (R := fun acc => st0 ++ [.lst acc]) (P := fun xs acc => (∀ x ∈ xs, x ∈ it.xs) ∧ acc.length + xs.length ≤ sizeLine) (nxt := fun acc x => acc ++ [F x]) it.xs [] ⟨fun _ h => h, by simpa using hl⟩ (fun _ => gok_app hg) fun x xs acc hp => ?_]
  · rw [foldl_app (fun x => [F x])]
    have : ∀ xs : List D, (xs.map fun x => [F x]).flatten = xs.map F := by
      intro xs
      induction xs with
      | nil => rfl
      | cons x xs ih => rw [List.map_cons, List.flatten_cons, ih]; rfl
    rw [this]; rfl
  · obtain ⟨h1, h2⟩ := hp
    obtain ⟨δ1, e1, e2, e3⟩ := hx x (h1 x (List.mem_cons_self ..)) acc
    rw [List.length_cons] at h2
    refine ⟨⟨fun y hy => h1 y (List.mem_cons_of_mem _ hy), by rw [List.length_append]; simp; omega⟩, δ1, e1, .inl ⟨e2, ?_⟩⟩
    unfold addEl
    rw [e3]
    simp only [at_len, List.getElem?_cons_zero, set_len, List.set_cons_zero]
    rw [if_pos (show acc.length < sizeLine by omega)]
/-- some items are left out -/
theorem lcM_filter {im : IM} {g : TGM} {c : BM} {e : EM} {vs : List Nat} {δ : En} {st st0 : Store} {it : ItD} (him : im δ st = .ok it st0) (F : D → Option D) (hg : gok it.gs st0) (hl : it.xs.length ≤ sizeLine)
    (hx : ∀ x ∈ it.xs, ∀ acc : List D, ∃ δ1, g x (wipeD δ vs) (st0 ++ [.lst acc]) = .ok .nx δ1 (st0 ++ [.lst acc]) ∧
      (match F x with
        | some d => c δ1 (st0 ++ [.lst acc]) = .ok true (st0 ++ [.lst acc]) ∧ e δ1 (st0 ++ [.lst acc]) = .ok d (st0 ++ [.lst acc])
        | none => c δ1 (st0 ++ [.lst acc]) = .ok false (st0 ++ [.lst acc]))) :
    lcM im g c e vs δ st = .ok (.loc st0.length) (st0 ++ [.lst (it.xs.filterMap F)]) := by
  unfold lcM
  rw [him]
  simp only [Res.bind_ok]
  rw [lcGo_cl, clGo_fold (σ := List D) (R := fun acc => st0 ++ [.lst acc]) (P := fun xs acc => (∀ x ∈ xs, x ∈ it.xs) ∧ acc.length + xs.length ≤ sizeLine) (nxt := fun acc x => acc ++ (F x).toList) it.xs [] ⟨fun _ h => h, by simpa using hl⟩ (fun _ => gok_app hg) fun x xs acc hp => ?_]
  · rw [foldl_app (fun x => (F x).toList)]
    have : ∀ xs : List D, (xs.map fun x => (F x).toList).flatten = xs.filterMap F := by
      intro xs
      induction xs with
      | nil => rfl
      | cons x xs ih =>
        rw [List.map_cons, List.flatten_cons, ih, List.filterMap_cons]
        cases F x <;> simp
    rw [this]; rfl
  · obtain ⟨h1, h2⟩ := hp
    obtain ⟨δ1, e1, e2⟩ := hx x (h1 x (List.mem_cons_self ..)) acc
    rw [List.length_cons] at h2
    cases hF : F x with
    | none =>
      rw [hF] at e2
      simp only at e2
      exact ⟨⟨fun y hy => h1 y (List.mem_cons_of_mem _ hy), by simp; omega⟩, δ1, e1, .inr ⟨e2, by simp⟩⟩
    | some d =>
      rw [hF] at e2
      simp only at e2
      refine ⟨⟨fun y hy => h1 y (List.mem_cons_of_mem _ hy), by simp; omega⟩, δ1, e1, .inl ⟨e2.1, ?_⟩⟩
      unfold addEl
      rw [e2.2]
      simp only [at_len, List.getElem?_cons_zero, set_len, List.set_cons_zero]
      rw [if_pos (show acc.length < sizeLine by omega)]
      rfl
/-- the items change a state in the store too -/
theorem lcM_fold {σ : Type} {im : IM} {g : TGM} {c : BM} {e : EM} {vs : List Nat} {δ : En} {st : Store} {it : ItD} (R : σ → Store) (P : List D → σ → Prop) (nxt : σ → D → σ × D) (s0 : σ) (him : im δ st = .ok it (R s0)) (hlen : ∀ s, (R s).length = (R s0).length) (hg : ∀ s, gok it.gs (R s)) (hl : it.xs.length ≤ sizeLine) (hP : P it.xs s0)
    (hx : ∀ x xs s (acc : List D), P (x :: xs) s → P xs (nxt s x).1 ∧ ∃ δ1, g x (wipeD δ vs) (R s ++ [.lst acc]) = .ok .nx δ1 (R s ++ [.lst acc]) ∧ c δ1 (R s ++ [.lst acc]) = .ok true (R s ++ [.lst acc]) ∧ e δ1 (R s ++ [.lst acc]) = .ok (nxt s x).2 (R (nxt s x).1 ++ [.lst acc])) :
    lcM im g c e vs δ st = .ok (.loc (R s0).length) (R (it.xs.foldl (fun p x => ((nxt p.1 x).1, p.2 ++ [(nxt p.1 x).2])) (s0, [])).1 ++ [.lst (it.xs.foldl (fun p x => ((nxt p.1 x).1, p.2 ++ [(nxt p.1 x).2])) (s0, [])).2]) := by
  unfold lcM
  rw [him]
  simp only [Res.bind_ok]
  have := clGo_fold (gs := it.gs) (g := g) (c := c) (f := addEl e (R s0).length) (δ := wipeD δ vs) (σ := σ × List D) (R := fun p => R p.1 ++ [.lst p.2]) (P := fun xs p => P xs p.1 ∧ p.2.length + xs.length ≤ sizeLine) (nxt := fun p x => ((nxt p.1 x).1, p.2 ++ [(nxt p.1 x).2])) it.xs (s0, []) ⟨hP, by simpa using hl⟩ (fun p => gok_app (hg p.1)) fun x xs p hp => by
    obtain ⟨h1, h2⟩ := hp
    obtain ⟨h3, δ1, e1, e2, e3⟩ := hx x xs p.1 p.2 h1
    rw [List.length_cons] at h2
    refine ⟨⟨h3, by rw [List.length_append]; simp; omega⟩, δ1, e1, .inl ⟨e2, ?_⟩⟩
    unfold addEl
    rw [e3, ← hlen (nxt p.1 x).1]
    simp only [at_len, List.getElem?_cons_zero, set_len, List.set_cons_zero]
    rw [if_pos (show p.2.length < sizeLine by omega)]
  rw [lcGo_cl, this]
  rfl
end Fx
/-! the defs of the law as functions on abstract data (printed by fxgen.py) -/
namespace Fx
open PySem PySem.Spec PyProof.Rows L2
def top (i : Nat) : Stmt := PySem.Challenge.pw_placefigures_k97_whole_tails_that_part_s.main.body.getD i (.Pass ⟨0, 0, 0, 0⟩)
abbrev s_is_integer : Stmt := top 1
abbrev s_is_within : Stmt := top 2
abbrev s_is_base : Stmt := top 8
abbrev s_reached : Stmt := top 10
abbrev s_renumbered : Stmt := top 11
abbrev s_classes_of : Stmt := top 12
abbrev s_least : Stmt := top 13
abbrev s_are_steps : Stmt := top 14
abbrev s_is_proof : Stmt := top 15
abbrev s_is_letter : Stmt := top 18
abbrev s_is_row : Stmt := top 19
abbrev s_check_row : Stmt := top 20
abbrev s_raw_least_row : Stmt := top 21
abbrev s_least_row : Stmt := top 22
abbrev s_numbered : Stmt := top 24
abbrev s_next_tail : Stmt := top 25
abbrev s_raw_tails : Stmt := top 26
abbrev s_tails_for : Stmt := top 27
abbrev s__law_draw : Stmt := top 29
abbrev s__law_some : Stmt := top 30
abbrev s__law_is : Stmt := top 31
abbrev s__law_hand : Stmt := top 32
abbrev s__law_row : Stmt := top 33
abbrev s__law_behind : Stmt := top 34
abbrev s__law_kinds : Stmt := top 35
abbrev s__law_tails : Stmt := top 36
abbrev s__law_is_refused : Stmt := top 37
abbrev s_law : Stmt := top 38
structure Fcs (K : PySem.W.Frag) (mg : Str → Option Value) (fds : Nat → FuncData) : Prop where
  d_is_integer : FunD K "is_integer" "is_integer" (defArgs s_is_integer) (defBody s_is_integer) (defScope s_is_integer) [] [] (He.ga K "is_integer") (fds 0)
  g_is_integer : mg "is_integer" = some (.ref (He.ga K "is_integer"))
  d_is_within : FunD K "is_within" "is_within" (defArgs s_is_within) (defBody s_is_within) (defScope s_is_within) [] [] (He.ga K "is_within") (fds 1)
  g_is_within : mg "is_within" = some (.ref (He.ga K "is_within"))
  d_is_base : FunD K "is_base" "is_base" (defArgs s_is_base) (defBody s_is_base) (defScope s_is_base) [] [] (He.ga K "is_base") (fds 2)
  g_is_base : mg "is_base" = some (.ref (He.ga K "is_base"))
  d_reached : FunD K "reached" "reached" (defArgs s_reached) (defBody s_reached) (defScope s_reached) [] [] (He.ga K "reached") (fds 3)
  g_reached : mg "reached" = some (.ref (He.ga K "reached"))
  d_renumbered : FunD K "renumbered" "renumbered" (defArgs s_renumbered) (defBody s_renumbered) (defScope s_renumbered) [] [] (He.ga K "renumbered") (fds 4)
  g_renumbered : mg "renumbered" = some (.ref (He.ga K "renumbered"))
  d_classes_of : FunD K "classes_of" "classes_of" (defArgs s_classes_of) (defBody s_classes_of) (defScope s_classes_of) [] [] (He.ga K "classes_of") (fds 5)
  g_classes_of : mg "classes_of" = some (.ref (He.ga K "classes_of"))
  d_least : FunD K "least" "least" (defArgs s_least) (defBody s_least) (defScope s_least) [] [] (He.ga K "least") (fds 6)
  g_least : mg "least" = some (.ref (He.ga K "least"))
  d_are_steps : FunD K "are_steps" "are_steps" (defArgs s_are_steps) (defBody s_are_steps) (defScope s_are_steps) [] [] (He.ga K "are_steps") (fds 7)
  g_are_steps : mg "are_steps" = some (.ref (He.ga K "are_steps"))
  d_is_proof : FunD K "is_proof" "is_proof" (defArgs s_is_proof) (defBody s_is_proof) (defScope s_is_proof) [] [] (He.ga K "is_proof") (fds 8)
  g_is_proof : mg "is_proof" = some (.ref (He.ga K "is_proof"))
  d_is_letter : FunD K "is_letter" "is_letter" (defArgs s_is_letter) (defBody s_is_letter) (defScope s_is_letter) [] [] (He.ga K "is_letter") (fds 9)
  g_is_letter : mg "is_letter" = some (.ref (He.ga K "is_letter"))
  d_is_row : FunD K "is_row" "is_row" (defArgs s_is_row) (defBody s_is_row) (defScope s_is_row) [] [] (He.ga K "is_row") (fds 10)
  g_is_row : mg "is_row" = some (.ref (He.ga K "is_row"))
  d_check_row : FunD K "check_row" "check_row" (defArgs s_check_row) (defBody s_check_row) (defScope s_check_row) [] [] (He.ga K "check_row") (fds 11)
  g_check_row : mg "check_row" = some (.ref (He.ga K "check_row"))
  d_raw_least_row : FunD K "raw_least_row" "raw_least_row" (defArgs s_raw_least_row) (defBody s_raw_least_row) (defScope s_raw_least_row) [] [] (He.ga K "raw_least_row") (fds 12)
  g_raw_least_row : mg "raw_least_row" = some (.ref (He.ga K "raw_least_row"))
  d_least_row : FunD K "least_row" "least_row" (defArgs s_least_row) (defBody s_least_row) (defScope s_least_row) [] [] (He.ga K "least_row") (fds 13)
  g_least_row : mg "least_row" = some (.ref (He.ga K "least_row"))
  d_numbered : FunD K "numbered" "numbered" (defArgs s_numbered) (defBody s_numbered) (defScope s_numbered) [] [] (He.ga K "numbered") (fds 14)
  g_numbered : mg "numbered" = some (.ref (He.ga K "numbered"))
  d_next_tail : FunD K "next_tail" "next_tail" (defArgs s_next_tail) (defBody s_next_tail) (defScope s_next_tail) [] [] (He.ga K "next_tail") (fds 15)
  g_next_tail : mg "next_tail" = some (.ref (He.ga K "next_tail"))
  d_raw_tails : FunD K "raw_tails" "raw_tails" (defArgs s_raw_tails) (defBody s_raw_tails) (defScope s_raw_tails) [] [] (He.ga K "raw_tails") (fds 16)
  g_raw_tails : mg "raw_tails" = some (.ref (He.ga K "raw_tails"))
  d_tails_for : FunD K "tails_for" "tails_for" (defArgs s_tails_for) (defBody s_tails_for) (defScope s_tails_for) [] [] (He.ga K "tails_for") (fds 17)
  g_tails_for : mg "tails_for" = some (.ref (He.ga K "tails_for"))
  d__law_draw : FunD K "_law_draw" "_law_draw" (defArgs s__law_draw) (defBody s__law_draw) (defScope s__law_draw) [] [] (He.ga K "_law_draw") (fds 18)
  g__law_draw : mg "_law_draw" = some (.ref (He.ga K "_law_draw"))
  d__law_some : FunD K "_law_some" "_law_some" (defArgs s__law_some) (defBody s__law_some) (defScope s__law_some) [] [] (He.ga K "_law_some") (fds 19)
  g__law_some : mg "_law_some" = some (.ref (He.ga K "_law_some"))
  d__law_is : FunD K "_law_is" "_law_is" (defArgs s__law_is) (defBody s__law_is) (defScope s__law_is) [] [] (He.ga K "_law_is") (fds 20)
  g__law_is : mg "_law_is" = some (.ref (He.ga K "_law_is"))
  d__law_hand : FunD K "_law_hand" "_law_hand" (defArgs s__law_hand) (defBody s__law_hand) (defScope s__law_hand) [] [] (He.ga K "_law_hand") (fds 21)
  g__law_hand : mg "_law_hand" = some (.ref (He.ga K "_law_hand"))
  d__law_row : FunD K "_law_row" "_law_row" (defArgs s__law_row) (defBody s__law_row) (defScope s__law_row) [] [] (He.ga K "_law_row") (fds 22)
  g__law_row : mg "_law_row" = some (.ref (He.ga K "_law_row"))
  d__law_behind : FunD K "_law_behind" "_law_behind" (defArgs s__law_behind) (defBody s__law_behind) (defScope s__law_behind) [] [] (He.ga K "_law_behind") (fds 23)
  g__law_behind : mg "_law_behind" = some (.ref (He.ga K "_law_behind"))
  d__law_kinds : FunD K "_law_kinds" "_law_kinds" (defArgs s__law_kinds) (defBody s__law_kinds) (defScope s__law_kinds) [] [] (He.ga K "_law_kinds") (fds 24)
  g__law_kinds : mg "_law_kinds" = some (.ref (He.ga K "_law_kinds"))
  d__law_tails : FunD K "_law_tails" "_law_tails" (defArgs s__law_tails) (defBody s__law_tails) (defScope s__law_tails) [] [] (He.ga K "_law_tails") (fds 25)
  g__law_tails : mg "_law_tails" = some (.ref (He.ga K "_law_tails"))
  d__law_is_refused : FunD K "_law_is_refused" "_law_is_refused" (defArgs s__law_is_refused) (defBody s__law_is_refused) (defScope s__law_is_refused) [] [] (He.ga K "_law_is_refused") (fds 26)
  g__law_is_refused : mg "_law_is_refused" = some (.ref (He.ga K "_law_is_refused"))
  d_law : FunD K "law" "law" (defArgs s_law) (defBody s_law) (defScope s_law) [] [] (He.ga K "law") (fds 27)
  g_law : mg "law" = some (.ref (He.ga K "law"))
  n_ValueError : mg "ValueError" = none
  n_abs : mg "abs" = none
  n_all : mg "all" = none
  n_bool : mg "bool" = none
  n_enumerate : mg "enumerate" = none
  n_int : mg "int" = none
  n_isinstance : mg "isinstance" = none
  n_len : mg "len" = none
  n_list : mg "list" = none
  n_max : mg "max" = none
  n_range : mg "range" = none
  n_repr : mg "repr" = none
  n_set : mg "set" = none
  n_sorted : mg "sorted" = none
  n_str : mg "str" = none
  n_tuple : mg "tuple" = none
  n_zip : mg "zip" = none
  g_PlaceError : mg "PlaceError" = some (.ref (He.ga K "PlaceError"))
  e_PlaceError : (He.Fa.exc "PlaceError").ok K = true
  m_PlaceError_PlaceError : PySem.W.exmOne K (.ref (He.ga K "PlaceError")) (.ref (He.ga K "PlaceError")) = some true
  m_PlaceError_NoRow : PySem.W.exmOne K (.ref (He.ga K "PlaceError")) (.ref (He.ga K "NoRow")) = some false
  g_NoRow : mg "NoRow" = some (.ref (He.ga K "NoRow"))
  e_NoRow : (He.Fa.exc "NoRow").ok K = true
  m_NoRow_PlaceError : PySem.W.exmOne K (.ref (He.ga K "NoRow")) (.ref (He.ga K "PlaceError")) = some true
  m_NoRow_NoRow : PySem.W.exmOne K (.ref (He.ga K "NoRow")) (.ref (He.ga K "NoRow")) = some true
  c_MOST_BASE : ∃ t, mg "MOST_BASE" = some (.int 16 t)
  c_MOST_ROW : ∃ t, mg "MOST_ROW" = some (.int 60 t)
section
variable {P : Program} {w : World} {K : PySem.W.Frag} {mg : Str → Option Value} {base : Heap} {fds : Nat → FuncData}
/-! ### _law_draw -/
theorem sc__law_draw : FnScope ["hand", "span", "cell", "digit", "number"] ["hand", "span"] (defScope s__law_draw) := ⟨rfl, rfl, rfl, by decide +kernel, rfl, by decide +kernel, by decide +kernel⟩
theorem b__law_draw (C : Fcs K mg fds) : Binds K (fds 18) ["hand", "span"] [] := C.d__law_draw.bindsN fun _ _ _ _ _ _ us hl => match us, hl with | [_, _], _ => rfl
noncomputable def m__law_draw : SM :=
    (seqS (ifS (andB (asB (eqM (ixM (varM 0) (conM (.int 2))) (conM (.int 0)))) (asB (ltM (ixM (varM 0) (conM (.int 1))) (blM lenV (consM (ixM (varM 0) (conM (.int 0))) nilM))))) (seqS (setS 2 (ixM (ixM (varM 0) (conM (.int 0))) (ixM (varM 0) (conM (.int 1)))))
    (seqS (putS (addM (ixM (varM 0) (conM (.int 1))) (conM (.int 1))) (varM 0) (conM (.int 1)))
    (seqS (putS (modM (gcM (blM intV (consM (addM (addM (mulTM (ixM (varM 0) (conM (.int 3))) (conM (.int 69621))) (varM 2)) (conM (.int 43))) nilM))) (conM (.int 2147483629))) (varM 0) (conM (.int 3)))
    (ifS (asB (geM (varM 2) (powM (conM (.int 10)) (conM (.int 18))))) (putS (varM 2) (varM 0) (conM (.int 2))) skipS)))) skipS)
    (seqS (ifS (asB (gtM (ixM (varM 0) (conM (.int 2))) (conM (.int 0)))) (seqS (setS 3 (modM (blM intV (consM (ixM (varM 0) (conM (.int 2))) nilM)) (varM 1)))
    (seqS (putS (divM (ixM (varM 0) (conM (.int 2))) (varM 1)) (varM 0) (conM (.int 2)))
    (retS (varM 3)))) skipS)
    (seqS (putS (addM (ixM (varM 0) (conM (.int 4))) (conM (.int 1))) (varM 0) (conM (.int 4)))
    (seqS (setS 4 (modM (gcM (blM intV (consM (mulTM (gcM (blM intV (consM (addM (ixM (varM 0) (conM (.int 3))) (mulTM (conM (.int 7919)) (ixM (varM 0) (conM (.int 4))))) nilM))) (conM (.int 48271))) nilM))) (conM (.int 2147483647))))
    (seqS (setS 4 (modM (gcM (blM intV (consM (mulTM (varM 4) (addM (divM (varM 4) (conM (.int 1009))) (conM (.int 69621)))) nilM))) (conM (.int 2147483647))))
    (seqS (setS 4 (modM (gcM (blM intV (consM (mulTM (varM 4) (addM (divM (varM 4) (conM (.int 2003))) (conM (.int 40692)))) nilM))) (conM (.int 2147483399))))
    (retS (modM (gcM (blM intV (consM (divM (varM 4) (conM (.int 16))) nilM))) (varM 1)))))))))
noncomputable def F__law_draw : FM := gcF (runF 5 (m__law_draw))
theorem fg__law_draw (C : Fcs K mg fds) : FnG P w K mg base 1 (He.ga K "_law_draw") (fds 18) ["hand", "span"] (F__law_draw) := fn_gc (fn_g (N := ["hand", "span", "cell", "digit", "number"]) (k := 0) C.d__law_draw sc__law_draw fun cdv A outer s H E B =>
    (gss_cons (gs_if (gt_w (gw_and (gt_cmp (op_eqD B.u64) eqV_ok (nomark _) (g_ix B.u1 (gv 0) g_int) g_int) (gw_and1 (gt_cmp op_lt cmpI_ok (nomark _) (g_ix B.u1 (gv 0) g_int) (g_len  (by rfl) C.n_len (ga_cons (g_ix B.u1 (gv 0) g_int) ga_nil)))))) (gss_cons (gs_set (i := 2) sc__law_draw.nd rfl (by first | exact Or.inl rfl | exact Or.inr rfl) (g_ix B.u1 (g_ix B.u1 (gv 0) g_int) (g_ix B.u1 (gv 0) g_int)))
    (gss_cons (gs_put B.u1 (g_add (g_ix B.u1 (gv 0) g_int) g_int) (gv 0) g_int)
    (gss_cons (gs_put B.u1 (g_mod (g_gc (g_intc  (by rfl) C.n_int (ga_cons (g_add (g_add (g_mulT (g_ix B.u1 (gv 0) g_int) g_int) (gv 2)) g_int) ga_nil))) g_int) (gv 0) g_int)
    (gss_one (gs_if (gt_cmp op_ge cmpI_ok (nomark _) (gv 2) (g_pow g_int g_int)) (gss_one (gs_put B.u1 (gv 2) (gv 0) g_int)) gss_nil))))) gss_nil)
    (gss_cons (gs_if (gt_cmp op_gt cmpI_ok (nomark _) (g_ix B.u1 (gv 0) g_int) g_int) (gss_cons (gs_set (i := 3) sc__law_draw.nd rfl (by first | exact Or.inl rfl | exact Or.inr rfl) (g_mod (g_intc  (by rfl) C.n_int (ga_cons (g_ix B.u1 (gv 0) g_int) ga_nil)) (gv 1)))
    (gss_cons (gs_put B.u1 (g_div (g_ix B.u1 (gv 0) g_int) (gv 1)) (gv 0) g_int)
    (gss_one (gs_ret (gv 3))))) gss_nil)
    (gss_cons (gs_put B.u1 (g_add (g_ix B.u1 (gv 0) g_int) g_int) (gv 0) g_int)
    (gss_cons (gs_set (i := 4) sc__law_draw.nd rfl (by first | exact Or.inl rfl | exact Or.inr rfl) (g_mod (g_gc (g_intc  (by rfl) C.n_int (ga_cons (g_mulT (g_gc (g_intc  (by rfl) C.n_int (ga_cons (g_add (g_ix B.u1 (gv 0) g_int) (g_mulT g_int (g_ix B.u1 (gv 0) g_int))) ga_nil))) g_int) ga_nil))) g_int))
    (gss_cons (gs_set (i := 4) sc__law_draw.nd rfl (by first | exact Or.inl rfl | exact Or.inr rfl) (g_mod (g_gc (g_intc  (by rfl) C.n_int (ga_cons (g_mulT (gv 4) (g_add (g_div (gv 4) g_int) g_int)) ga_nil))) g_int))
    (gss_cons (gs_set (i := 4) sc__law_draw.nd rfl (by first | exact Or.inl rfl | exact Or.inr rfl) (g_mod (g_gc (g_intc  (by rfl) C.n_int (ga_cons (g_mulT (gv 4) (g_add (g_div (gv 4) g_int) g_int)) ga_nil))) g_int))
    (gss_one (gs_ret (g_mod (g_gc (g_intc  (by rfl) C.n_int (ga_cons (g_div (gv 4) g_int) ga_nil))) (gv 1)))))))))))
/-! ### _law_hand -/
theorem sc__law_hand : FnScope ["script", "cells", "cell"] ["script"] (defScope s__law_hand) := ⟨rfl, rfl, rfl, by decide +kernel, rfl, by decide +kernel, by decide +kernel⟩
theorem b__law_hand (C : Fcs K mg fds) : Binds K (fds 21) ["script"] [] := C.d__law_hand.bindsN fun _ _ _ _ _ _ us hl => match us, hl with | [_], _ => rfl
noncomputable def m__law_hand (K : PySem.W.Frag) : SM :=
    (seqS (setS 1 (lcM (seqI (sliceKM K (varM 0) noO (someO (conM (.int 63))))) (nameG 2) yesB (gcM (blM absV (consM (blM intV (consM (varM 2) nilM)) nilM))) [2]))
    (retS (lstM (consM (varM 1) (consM (conM (.int 0)) (consM (conM (.int 0)) (consM (addM (conM (.int 617)) (mulTM (conM (.int 3)) (blM lenV (consM (varM 1) nilM)))) (consM (conM (.int 0)) nilM))))))))
noncomputable def F__law_hand (K : PySem.W.Frag) : FM := gcF (runF 3 (m__law_hand K))
theorem fg__law_hand (C : Fcs K mg fds) : FnG P w K mg base 1 (He.ga K "_law_hand") (fds 21) ["script"] (F__law_hand K) := fn_gc (fn_g (N := ["script", "cells", "cell"]) (k := 0) C.d__law_hand sc__law_hand fun cdv A outer s H E B =>
    (gss_cons (gs_setLc (i := 1) (own := [("cell", 2)]) rfl sc__law_hand.nd rfl rfl (by rfl) (gi_seq (g_sliceK (gv 0) go_none (go_some g_int))) (blkOk_by (by rfl)) (fun _ _ _ _ _ => (ggv_nm 2 (hN := sc__law_hand.nd))) (good_name (i := 2)) (fun _ _ _ _ _ => gts_nil) (fun _ _ _ _ _ => (g_gc (g_abs  (by rfl) C.n_abs (ga_cons (g_intc  (by rfl) C.n_int (ga_cons (gv 2) ga_nil)) ga_nil)))))
    (gss_one (gs_ret (g_lst (ga_cons (gv 1) (ga_cons g_int (ga_cons g_int (ga_cons (g_add g_int (g_mulT g_int (g_len  (by rfl) C.n_len (ga_cons (gv 1) ga_nil)))) (ga_cons g_int ga_nil))))))))))
/-! ### _law_is -/
theorem sc__law_is : FnScope ["thing", "due", "one", "other"] ["thing", "due"] (defScope s__law_is) := ⟨rfl, rfl, rfl, by decide +kernel, rfl, by decide +kernel, by decide +kernel⟩
theorem b__law_is (C : Fcs K mg fds) : Binds K (fds 20) ["thing", "due"] [] := C.d__law_is.bindsN fun _ _ _ _ _ _ us hl => match us, hl with | [_, _], _ => rfl
noncomputable def m__law_is (F__law_is : FM) : SM :=
    (seqS (ifS (asB (isi2M "tuple" "list" (varM 1))) (seqS (ifS (orB (asB (neM (isiM "tuple" (varM 0)) (isiM "tuple" (varM 1)))) (asB (neM (isiM "list" (varM 0)) (isiM "list" (varM 1))))) (retS (conM (.bl false))) skipS)
    (retS (andM (eqM (blM lenV (consM (varM 0) nilM)) (blM lenV (consM (varM 1) nilM))) (gcM (blM allV (consM (lcM (zipI (consM (varM 0) (consM (varM 1) nilM))) (tupG 2 (consG (nameG 2) (consG (nameG 3) nilG))) yesB (callM 2 (F__law_is) (consM (varM 2) (consM (varM 3) nilM))) [2, 3]) nilM)))))) skipS)
    (seqS (ifS (orB (asB (isM (varM 1) (conM .non))) (asB (isM (varM 0) (conM .non)))) (retS (andM (isM (varM 1) (conM .non)) (isM (varM 0) (conM .non)))) skipS)
    (seqS (ifS (orB (asB (neM (isiM "bool" (varM 0)) (isiM "bool" (varM 1)))) (asB (neM (isiM "int" (varM 0)) (isiM "int" (varM 1))))) (retS (conM (.bl false))) skipS)
    (retS (andM (eqM (isiM "str" (varM 0)) (isiM "str" (varM 1))) (eqM (varM 0) (varM 1)))))))
noncomputable def F__law_is : Nat → FM
  | 0 => fun _ _ => .stuck
  | n + 1 => gcF (runF 4 (m__law_is (F__law_is n)))
theorem fg__law_is (C : Fcs K mg fds) : ∀ n : Nat, FnG P w K mg base (0 + n) (He.ga K "_law_is") (fds 20) ["thing", "due"] (F__law_is n)
  | 0 => ⟨fun A outer s H args us vs Q E _ _ _ _ _ ⟨_, _, _, _, _, _, h⟩ => h.elim⟩
  | n + 1 => fn_gc (fn_g (N := ["thing", "due", "one", "other"]) (k := 0 + n) C.d__law_is sc__law_is fun cdv A outer s H E B =>
    (gss_cons (gs_if (gt_val (g_isi2 (by rfl) C.n_isinstance (by rfl) C.n_tuple (by decide +kernel) (by rfl) C.n_list (by decide +kernel) (gv 1))) (gss_cons (gs_if (gt_w (gw_or (gt_cmp (op_neD B.u64) neV_ok (nomark _) (g_isi (by rfl) C.n_isinstance (by rfl) C.n_tuple (by decide +kernel) (gv 0)) (g_isi (by rfl) C.n_isinstance (by rfl) C.n_tuple (by decide +kernel) (gv 1))) (gw_or1 (gt_cmp (op_neD B.u64) neV_ok (nomark _) (g_isi (by rfl) C.n_isinstance (by rfl) C.n_list (by decide +kernel) (gv 0)) (g_isi (by rfl) C.n_isinstance (by rfl) C.n_list (by decide +kernel) (gv 1)))))) (gss_one (gs_ret g_bl)) gss_nil)
    (gss_one (gs_ret (g_and (g_eq B.u64 (g_len  (by rfl) C.n_len (ga_cons (gv 0) ga_nil)) (g_len  (by rfl) C.n_len (ga_cons (gv 1) ga_nil))) (g_one (g_gc (g_all rfl (by rfl) C.n_all (ga_cons (g_lc (own := [("one", 2), ("other", 3)]) rfl sc__law_is.nd (gi_zip (by rfl) C.n_zip (ga_cons (gv 0) (ga_cons (gv 1) ga_nil))) (blkOk_by (by rfl)) (fun _ _ _ _ _ => (ggv_tup (by rfl) (ggsv_cons (ggv_nm 2 (hN := sc__law_is.nd)) (ggsv_cons (ggv_nm 3 (hN := sc__law_is.nd)) ggsv_nil)))) (good_tup (good_cons (good_name (i := 2)) (good_cons (good_name (i := 3)) good_nil))) (fun _ _ _ _ _ => gts_nil) (fun _ _ _ _ _ => (g_callR (ga_cons (gv 2) (ga_cons (gv 3) ga_nil)) (fg__law_is C n) (B.room.mono (Nat.le_refl _)) (by rfl) C.g__law_is C.d__law_is.kp (b__law_is C) takesB))) ga_nil)))))))) gss_nil)
    (gss_cons (gs_if (gt_w (gw_or (gt_cmp (op_is_bl.or op_isN) isV_ok (nomark _) (gv 1) g_non) (gw_or1 (gt_cmp (op_is_bl.or op_isN) isV_ok (nomark _) (gv 0) g_non)))) (gss_one (gs_ret (g_and (g_is (gv 1) g_non) (g_one (g_is (gv 0) g_non))))) gss_nil)
    (gss_cons (gs_if (gt_w (gw_or (gt_cmp (op_neD B.u64) neV_ok (nomark _) (g_isi (by rfl) C.n_isinstance (by rfl) C.n_bool (by decide +kernel) (gv 0)) (g_isi (by rfl) C.n_isinstance (by rfl) C.n_bool (by decide +kernel) (gv 1))) (gw_or1 (gt_cmp (op_neD B.u64) neV_ok (nomark _) (g_isi (by rfl) C.n_isinstance (by rfl) C.n_int (by decide +kernel) (gv 0)) (g_isi (by rfl) C.n_isinstance (by rfl) C.n_int (by decide +kernel) (gv 1)))))) (gss_one (gs_ret g_bl)) gss_nil)
    (gss_one (gs_ret (g_and (g_eq B.u64 (g_isi (by rfl) C.n_isinstance (by rfl) C.n_str (by decide +kernel) (gv 0)) (g_isi (by rfl) C.n_isinstance (by rfl) C.n_str (by decide +kernel) (gv 1))) (g_one (g_eq B.u64 (gv 0) (gv 1))))))))))
/-! ### are_steps -/
theorem sc_are_steps : FnScope ["thing", "columns", "most", "row", "many", "one"] ["thing", "columns", "most"] (defScope s_are_steps) := ⟨rfl, rfl, rfl, by decide +kernel, rfl, by decide +kernel, by decide +kernel⟩
theorem b_are_steps (C : Fcs K mg fds) : Binds K (fds 7) ["thing", "columns", "most"] [] := C.d_are_steps.bindsN fun _ _ _ _ _ _ us hl => match us, hl with | [_, _, _], _ => rfl
noncomputable def m_are_steps : SM :=
    (seqS (ifS (orB (notB (asB (isiM "tuple" (varM 0)))) (notB (asB (chainM leF leF (conM (.int 1)) (blM lenV (consM (varM 0) nilM)) (varM 2))))) (retS (conM (.bl false))) skipS)
    (seqS (ifS (notB (asB (gcM (blM allV (consM (lcM (seqI (varM 0)) (nameG 3) yesB (andM (isiM "tuple" (varM 3)) (eqM (blM lenV (consM (varM 3) nilM)) (varM 1))) [3]) nilM))))) (retS (conM (.bl false))) skipS)
    (seqS (setS 4 (blM lenV (consM (varM 0) nilM)))
    (retS (gcM (blM allV (consM (lc2M (seqI (varM 0)) (nameG 3) yesB (seqI (varM 3)) (nameG 5) yesB (andM (isiM "int" (varM 5)) (andM (notM (isiM "bool" (varM 5))) (chainM leF ltF (conM (.int 0)) (varM 5) (varM 4)))) [3, 5] [5]) nilM)))))))
noncomputable def F_are_steps : FM := gcF (runF 6 (m_are_steps))
theorem fg_are_steps (C : Fcs K mg fds) : FnG P w K mg base 1 (He.ga K "are_steps") (fds 7) ["thing", "columns", "most"] (F_are_steps) := fn_gc (fn_g (N := ["thing", "columns", "most", "row", "many", "one"]) (k := 0) C.d_are_steps sc_are_steps fun cdv A outer s H E B =>
    (gss_cons (gs_if (gt_w (gw_or (gt_not (gt_val (g_isi (by rfl) C.n_isinstance (by rfl) C.n_tuple (by decide +kernel) (gv 0)))) (gw_or1 (gt_not (gt_chn op_le op_le cmpI_ok cmpI_ok g_int (g_len  (by rfl) C.n_len (ga_cons (gv 0) ga_nil)) (gv 2)))))) (gss_one (gs_ret g_bl)) gss_nil)
    (gss_cons (gs_if (gt_not (gt_val (g_gc (g_all rfl (by rfl) C.n_all (ga_cons (g_lc (own := [("row", 3)]) rfl sc_are_steps.nd (gi_seq (gv 0)) (blkOk_by (by rfl)) (fun _ _ _ _ _ => (ggv_nm 3 (hN := sc_are_steps.nd))) (good_name (i := 3)) (fun _ _ _ _ _ => gts_nil) (fun _ _ _ _ _ => (g_and (g_isi (by rfl) C.n_isinstance (by rfl) C.n_tuple (by decide +kernel) (gv 3)) (g_one (g_eq B.u64 (g_len  (by rfl) C.n_len (ga_cons (gv 3) ga_nil)) (gv 1)))))) ga_nil))))) (gss_one (gs_ret g_bl)) gss_nil)
    (gss_cons (gs_set (i := 4) sc_are_steps.nd rfl (by first | exact Or.inl rfl | exact Or.inr rfl) (g_len  (by rfl) C.n_len (ga_cons (gv 0) ga_nil)))
    (gss_one (gs_ret (g_gc (g_all rfl (by rfl) C.n_all (ga_cons (g_lc2 (own := [("row", 3), ("one", 5)]) (vs1 := [5]) rfl sc_are_steps.nd (gi_seq (gv 0)) (blkOk_by (by rfl)) (by decide) (fun _ _ _ _ _ => (ggv_nm 3 (hN := sc_are_steps.nd))) (good_name (i := 3)) (fun _ _ _ _ _ => gts_nil) (fun _ _ _ _ _ => (gi_seq (gv 3))) (fun _ _ _ _ _ => (ggv_nm 5 (hN := sc_are_steps.nd))) (good_name (i := 5)) (fun _ _ _ _ _ => gts_nil) (fun _ _ _ _ _ => (g_and (g_isi (by rfl) C.n_isinstance (by rfl) C.n_int (by decide +kernel) (gv 5)) (g_and (g_not (g_isi (by rfl) C.n_isinstance (by rfl) C.n_bool (by decide +kernel) (gv 5))) (g_one (g_chain op_le op_lt cmpI_ok cmpI_ok g_int (gv 5) (gv 4))))))) ga_nil)))))))))
/-! ### is_integer -/
theorem sc_is_integer : FnScope ["thing"] ["thing"] (defScope s_is_integer) := ⟨rfl, rfl, rfl, by decide +kernel, rfl, by decide +kernel, by decide +kernel⟩
theorem b_is_integer (C : Fcs K mg fds) : Binds K (fds 0) ["thing"] [] := C.d_is_integer.bindsN fun _ _ _ _ _ _ us hl => match us, hl with | [_], _ => rfl
noncomputable def m_is_integer : SM :=
    (retS (andM (isiM "int" (varM 0)) (notM (isiM "bool" (varM 0)))))
noncomputable def F_is_integer : FM := gcF (runF 1 (m_is_integer))
theorem fg_is_integer (C : Fcs K mg fds) : FnG P w K mg base 1 (He.ga K "is_integer") (fds 0) ["thing"] (F_is_integer) := fn_gc (fn_g (N := ["thing"]) (k := 0) C.d_is_integer sc_is_integer fun cdv A outer s H E B =>
    (gss_one (gs_ret (g_and (g_isi (by rfl) C.n_isinstance (by rfl) C.n_int (by decide +kernel) (gv 0)) (g_one (g_not (g_isi (by rfl) C.n_isinstance (by rfl) C.n_bool (by decide +kernel) (gv 0))))))))
/-! ### is_within -/
theorem sc_is_within : FnScope ["thing", "low", "high"] ["thing", "low", "high"] (defScope s_is_within) := ⟨rfl, rfl, rfl, by decide +kernel, rfl, by decide +kernel, by decide +kernel⟩
theorem b_is_within (C : Fcs K mg fds) : Binds K (fds 1) ["thing", "low", "high"] [] := C.d_is_within.bindsN fun _ _ _ _ _ _ us hl => match us, hl with | [_, _, _], _ => rfl
noncomputable def m_is_within : SM :=
    (retS (andM (callM 1 (F_is_integer) (consM (varM 0) nilM)) (chainM leF leF (varM 1) (varM 0) (varM 2))))
noncomputable def F_is_within : FM := gcF (runF 3 (m_is_within))
theorem fg_is_within (C : Fcs K mg fds) : FnG P w K mg base 2 (He.ga K "is_within") (fds 1) ["thing", "low", "high"] (F_is_within) := fn_gc (fn_g (N := ["thing", "low", "high"]) (k := 1) C.d_is_within sc_is_within fun cdv A outer s H E B =>
    (gss_one (gs_ret (g_and (g_callR (ga_cons (gv 0) ga_nil) (fg_is_integer C) (B.room.mono (by decide)) (by rfl) C.g_is_integer C.d_is_integer.kp (b_is_integer C) B.tk) (g_one (g_chain op_le op_le cmpI_ok cmpI_ok (gv 1) (gv 0) (gv 2)))))))
/-! ### is_base -/
theorem sc_is_base : FnScope ["thing"] ["thing"] (defScope s_is_base) := ⟨rfl, rfl, rfl, by decide +kernel, rfl, by decide +kernel, by decide +kernel⟩
theorem b_is_base (C : Fcs K mg fds) : Binds K (fds 2) ["thing"] [] := C.d_is_base.bindsN fun _ _ _ _ _ _ us hl => match us, hl with | [_], _ => rfl
noncomputable def m_is_base : SM :=
    (retS (callM 3 (F_is_within) (consM (varM 0) (consM (conM (.int 2)) (consM (conM (.int 16)) nilM)))))
noncomputable def F_is_base : FM := gcF (runF 1 (m_is_base))
theorem fg_is_base (C : Fcs K mg fds) : FnG P w K mg base 3 (He.ga K "is_base") (fds 2) ["thing"] (F_is_base) := fn_gc (fn_g (N := ["thing"]) (k := 2) C.d_is_base sc_is_base fun cdv A outer s H E B =>
    (gss_one (gs_ret (g_callR (ga_cons (gv 0) (ga_cons g_int (ga_cons (g_globI (by rfl) C.c_MOST_BASE) ga_nil))) (fg_is_within C) (B.room.mono (by decide)) (by rfl) C.g_is_within C.d_is_within.kp (b_is_within C) B.tk))))
/-! ### is_letter -/
theorem sc_is_letter : FnScope ["thing"] ["thing"] (defScope s_is_letter) := ⟨rfl, rfl, rfl, by decide +kernel, rfl, by decide +kernel, by decide +kernel⟩
theorem b_is_letter (C : Fcs K mg fds) : Binds K (fds 9) ["thing"] [] := C.d_is_letter.bindsN fun _ _ _ _ _ _ us hl => match us, hl with | [_], _ => rfl
noncomputable def m_is_letter : SM :=
    (retS (callM 3 (F_is_within) (consM (varM 0) (consM (conM (.int 0)) (consM (conM (.int 9)) nilM)))))
noncomputable def F_is_letter : FM := gcF (runF 1 (m_is_letter))
theorem fg_is_letter (C : Fcs K mg fds) : FnG P w K mg base 3 (He.ga K "is_letter") (fds 9) ["thing"] (F_is_letter) := fn_gc (fn_g (N := ["thing"]) (k := 2) C.d_is_letter sc_is_letter fun cdv A outer s H E B =>
    (gss_one (gs_ret (g_callR (ga_cons (gv 0) (ga_cons g_int (ga_cons g_int ga_nil))) (fg_is_within C) (B.room.mono (by decide)) (by rfl) C.g_is_within C.d_is_within.kp (b_is_within C) B.tk))))
/-! ### is_proof -/
theorem sc_is_proof : FnScope ["steps", "marks", "state", "row"] ["steps", "marks"] (defScope s_is_proof) := ⟨rfl, rfl, rfl, by decide +kernel, rfl, by decide +kernel, by decide +kernel⟩
theorem b_is_proof (C : Fcs K mg fds) : Binds K (fds 8) ["steps", "marks"] [] := C.d_is_proof.bindsN fun _ _ _ _ _ _ us hl => match us, hl with | [_, _], _ => rfl
noncomputable def m_is_proof : SM :=
    (retS (gcM (blM allV (consM (lcM (enumI (consM (varM 0) nilM)) (tupG 2 (consG (nameG 2) (consG (nameG 3) nilG))) yesB (eqM (blM reprIV (consM (ixM (varM 1) (ixM (varM 3) (conM (.int 0)))) nilM)) (blM reprIV (consM (ixM (varM 1) (varM 2)) nilM))) [2, 3]) nilM))))
noncomputable def F_is_proof : FM := gcF (runF 4 (m_is_proof))
theorem fg_is_proof (C : Fcs K mg fds) : FnG P w K mg base 1 (He.ga K "is_proof") (fds 8) ["steps", "marks"] (F_is_proof) := fn_gc (fn_g (N := ["steps", "marks", "state", "row"]) (k := 0) C.d_is_proof sc_is_proof fun cdv A outer s H E B =>
    (gss_one (gs_ret (g_gc (g_all rfl (by rfl) C.n_all (ga_cons (g_lc (own := [("state", 2), ("row", 3)]) rfl sc_is_proof.nd (gi_enum (by rfl) C.n_enumerate (ga_cons (gv 0) ga_nil)) (blkOk_by (by rfl)) (fun _ _ _ _ _ => (ggv_tup (by rfl) (ggsv_cons (ggv_nm 2 (hN := sc_is_proof.nd)) (ggsv_cons (ggv_nm 3 (hN := sc_is_proof.nd)) ggsv_nil)))) (good_tup (good_cons (good_name (i := 2)) (good_cons (good_name (i := 3)) good_nil))) (fun _ _ _ _ _ => gts_nil) (fun _ _ _ _ _ => (g_eq B.u64 (g_reprI  (by rfl) C.n_repr (ga_cons (g_ix B.u1 (gv 1) (g_ix B.u1 (gv 3) g_int)) ga_nil)) (g_reprI  (by rfl) C.n_repr (ga_cons (g_ix B.u1 (gv 1) (gv 2)) ga_nil))))) ga_nil))))))
/-! ### is_row -/
theorem sc_is_row : FnScope ["thing", "b", "steps", "letters", "one"] ["thing"] (defScope s_is_row) := ⟨rfl, rfl, rfl, by decide +kernel, rfl, by decide +kernel, by decide +kernel⟩
theorem b_is_row (C : Fcs K mg fds) : Binds K (fds 10) ["thing"] [] := C.d_is_row.bindsN fun _ _ _ _ _ _ us hl => match us, hl with | [_], _ => rfl
noncomputable def m_is_row : SM :=
    (seqS (ifS (orB (notB (asB (isiM "tuple" (varM 0)))) (orB (asB (neM (blM lenV (consM (varM 0) nilM)) (conM (.int 3)))) (notB (asB (callM 1 (F_is_base) (consM (ixM (varM 0) (conM (.int 0))) nilM)))))) (retS (conM (.bl false))) skipS)
    (seqS (asgS (varM 0) (tupG 3 (consG (nameG 1) (consG (nameG 2) (consG (nameG 3) nilG)))))
    (seqS (ifS (orB (notB (asB (callM 3 (F_are_steps) (consM (varM 2) (consM (varM 1) (consM (conM (.int 60)) nilM)))))) (orB (notB (asB (isiM "tuple" (varM 3)))) (asB (neM (blM lenV (consM (varM 3) nilM)) (blM lenV (consM (varM 2) nilM)))))) (retS (conM (.bl false))) skipS)
    (retS (andM (gcM (blM allV (consM (lcM (seqI (varM 3)) (nameG 4) yesB (callM 1 (F_is_letter) (consM (varM 4) nilM)) [4]) nilM))) (callM 2 (F_is_proof) (consM (varM 2) (consM (varM 3) nilM))))))))
noncomputable def F_is_row : FM := gcF (runF 5 (m_is_row))
theorem fg_is_row (C : Fcs K mg fds) : FnG P w K mg base 4 (He.ga K "is_row") (fds 10) ["thing"] (F_is_row) := fn_gc (fn_g (N := ["thing", "b", "steps", "letters", "one"]) (k := 3) C.d_is_row sc_is_row fun cdv A outer s H E B =>
    (gss_cons (gs_if (gt_w (gw_or (gt_not (gt_val (g_isi (by rfl) C.n_isinstance (by rfl) C.n_tuple (by decide +kernel) (gv 0)))) (gw_or (gt_cmp (op_neD B.u64) neV_ok (nomark _) (g_len  (by rfl) C.n_len (ga_cons (gv 0) ga_nil)) g_int) (gw_or1 (gt_not (gt_val (g_callR (ga_cons (g_ix B.u1 (gv 0) g_int) ga_nil) (fg_is_base C) (B.room.mono (by decide)) (by rfl) C.g_is_base C.d_is_base.kp (b_is_base C) B.tk))))))) (gss_one (gs_ret g_bl)) gss_nil)
    (gss_cons (gs_asg (gv 0) (gg_tup (by rfl) (ggs_cons (gg_nm 1 sc_is_row.nd) (ggs_cons (gg_nm 2 sc_is_row.nd) (ggs_cons (gg_nm 3 sc_is_row.nd) ggs_nil)))) (good_tup (good_cons (good_name (i := 1)) (good_cons (good_name (i := 2)) (good_cons (good_name (i := 3)) good_nil)))))
    (gss_cons (gs_if (gt_w (gw_or (gt_not (gt_val (g_callR (ga_cons (gv 2) (ga_cons (gv 1) (ga_cons (g_globI (by rfl) C.c_MOST_ROW) ga_nil))) (fg_are_steps C) (B.room.mono (by decide)) (by rfl) C.g_are_steps C.d_are_steps.kp (b_are_steps C) B.tk))) (gw_or (gt_not (gt_val (g_isi (by rfl) C.n_isinstance (by rfl) C.n_tuple (by decide +kernel) (gv 3)))) (gw_or1 (gt_cmp (op_neD B.u64) neV_ok (nomark _) (g_len  (by rfl) C.n_len (ga_cons (gv 3) ga_nil)) (g_len  (by rfl) C.n_len (ga_cons (gv 2) ga_nil))))))) (gss_one (gs_ret g_bl)) gss_nil)
    (gss_one (gs_ret (g_and (g_gc (g_all rfl (by rfl) C.n_all (ga_cons (g_lc (own := [("one", 4)]) rfl sc_is_row.nd (gi_seq (gv 3)) (blkOk_by (by rfl)) (fun _ _ _ _ _ => (ggv_nm 4 (hN := sc_is_row.nd))) (good_name (i := 4)) (fun _ _ _ _ _ => gts_nil) (fun _ _ _ _ _ => (g_callR (ga_cons (gv 4) ga_nil) (fg_is_letter C) (B.room.mono (by decide)) (by rfl) C.g_is_letter C.d_is_letter.kp (b_is_letter C) takesB))) ga_nil))) (g_one (g_callR (ga_cons (gv 2) (ga_cons (gv 3) ga_nil)) (fg_is_proof C) (B.room.mono (by decide)) (by rfl) C.g_is_proof C.d_is_proof.kp (b_is_proof C) B.tk)))))))))
/-! ### check_row -/
theorem sc_check_row : FnScope ["thing"] ["thing"] (defScope s_check_row) := ⟨rfl, rfl, rfl, by decide +kernel, rfl, by decide +kernel, by decide +kernel⟩
theorem b_check_row (C : Fcs K mg fds) : Binds K (fds 11) ["thing"] [] := C.d_check_row.bindsN fun _ _ _ _ _ _ us hl => match us, hl with | [_], _ => rfl
noncomputable def m_check_row : SM :=
    (ifS (notB (asB (callM 1 (F_is_row) (consM (varM 0) nilM)))) (raiseS "NoRow") skipS)
noncomputable def F_check_row : FM := gcF (runF 1 (m_check_row))
theorem fg_check_row (C : Fcs K mg fds) : FnG P w K mg base 5 (He.ga K "check_row") (fds 11) ["thing"] (F_check_row) := fn_gc (fn_g (N := ["thing"]) (k := 4) C.d_check_row sc_check_row fun cdv A outer s H E B =>
    (gss_one (gs_if (gt_not (gt_val (g_callR (ga_cons (gv 0) ga_nil) (fg_is_row C) (B.room.mono (by decide)) (by rfl) C.g_is_row C.d_is_row.kp (b_is_row C) B.tk))) (gss_one (gs_raise0 rfl B.tk C.e_NoRow C.g_NoRow (by rfl))) gss_nil)))
/-! ### classes_of -/
theorem sc_classes_of : FnScope ["steps", "marks", "known", "found", "mark", "many", "told", "state", "row", "goal"] ["steps", "marks"] (defScope s_classes_of) := ⟨rfl, rfl, rfl, by decide +kernel, rfl, by decide +kernel, by decide +kernel⟩
theorem b_classes_of (C : Fcs K mg fds) : Binds K (fds 5) ["steps", "marks"] [] := C.d_classes_of.bindsN fun _ _ _ _ _ _ us hl => match us, hl with | [_, _], _ => rfl
noncomputable def m_classes_of : SM :=
    (seqS (setS 2 newKM)
    (seqS (setS 3 (lcM (seqI (varM 1)) (nameG 4) yesB (setdAM (varM 2) (blM reprIV (consM (varM 4) nilM)) (blM lenV (consM (varM 2) nilM))) [4]))
    (seqS (setS 5 (conM (.int 0)))
    (seqS (whileS (asB (ltM (varM 5) (blM lenV (consM (varM 2) nilM))))
    (seqS (asgS (tupM (consM (blM lenV (consM (varM 2) nilM)) (consM newTM nilM))) (tupG 2 (consG (nameG 5) (consG (nameG 2) nilG))))
    (seqS (setS 6 (lcM (enumI (consM (varM 0) nilM)) (tupG 2 (consG (nameG 7) (consG (nameG 8) nilG))) yesB (addM (tupM (consM (ixM (varM 3) (varM 7)) nilM)) (gcM (blM tupleV (consM (lcM (seqI (varM 8)) (nameG 9) yesB (ixM (varM 3) (varM 9)) [9]) nilM)))) [7, 8]))
    (setS 3 (lcM (seqI (varM 6)) (nameG 8) yesB (setdAM (varM 2) (varM 8) (blM lenV (consM (varM 2) nilM))) [8])))))
    (retS (varM 3))))))
noncomputable def F_classes_of : FM := gcF (runF 10 (m_classes_of))
theorem fg_classes_of (C : Fcs K mg fds) : FnG P w K mg base 1 (He.ga K "classes_of") (fds 5) ["steps", "marks"] (F_classes_of) := fn_gc (fn_g (N := ["steps", "marks", "known", "found", "mark", "many", "told", "state", "row", "goal"]) (k := 0) C.d_classes_of sc_classes_of fun cdv A outer s H E B =>
    (gss_cons (gs_set (i := 2) sc_classes_of.nd rfl (by first | exact Or.inl rfl | exact Or.inr rfl) g_newK)
    (gss_cons (gs_set (i := 3) sc_classes_of.nd rfl (by first | exact Or.inl rfl | exact Or.inr rfl) (g_lc (own := [("mark", 4)]) rfl sc_classes_of.nd (gi_seq (gv 1)) (blkOk_by (by rfl)) (fun _ _ _ _ _ => (ggv_nm 4 (hN := sc_classes_of.nd))) (good_name (i := 4)) (fun _ _ _ _ _ => gts_nil) (fun _ _ _ _ _ => (g_setdA B.u2 (gv 2) (g_reprI  (by rfl) C.n_repr (ga_cons (gv 4) ga_nil)) (g_len  (by rfl) C.n_len (ga_cons (gv 2) ga_nil)) ⟨rfl, rfl, rfl, rfl⟩))))
    (gss_cons (gs_set (i := 5) sc_classes_of.nd rfl (by first | exact Or.inl rfl | exact Or.inr rfl) g_int)
    (gss_cons (gs_while B.own (gt_cmp op_lt cmpI_ok (nomark _) (gv 5) (g_len  (by rfl) C.n_len (ga_cons (gv 2) ga_nil)))
    (gss_cons (gs_asg (g_tup (ga_cons (g_len  (by rfl) C.n_len (ga_cons (gv 2) ga_nil)) (ga_cons g_newT ga_nil))) (gg_tup (by rfl) (ggs_cons (gg_nm 5 sc_classes_of.nd) (ggs_cons (gg_nm 2 sc_classes_of.nd) ggs_nil))) (good_tup (good_cons (good_name (i := 5)) (good_cons (good_name (i := 2)) good_nil))))
    (gss_cons (gs_setLc (i := 6) (own := [("state", 7), ("row", 8)]) rfl sc_classes_of.nd rfl rfl (by rfl) (gi_enum (by rfl) C.n_enumerate (ga_cons (gv 0) ga_nil)) (blkOk_by (by rfl)) (fun _ _ _ _ _ => (ggv_tup (by rfl) (ggsv_cons (ggv_nm 7 (hN := sc_classes_of.nd)) (ggsv_cons (ggv_nm 8 (hN := sc_classes_of.nd)) ggsv_nil)))) (good_tup (good_cons (good_name (i := 7)) (good_cons (good_name (i := 8)) good_nil))) (fun _ _ _ _ _ => gts_nil) (fun _ _ _ _ _ => (g_add (g_tup (ga_cons (g_ix B.u1 (gv 3) (gv 7)) ga_nil)) (g_gc (g_tuple  (by rfl) C.n_tuple (ga_cons (g_lc (own := [("goal", 9)]) rfl sc_classes_of.nd (gi_seq (gv 8)) (blkOk_by (by rfl)) (fun _ _ _ _ _ => (ggv_nm 9 (hN := sc_classes_of.nd))) (good_name (i := 9)) (fun _ _ _ _ _ => gts_nil) (fun _ _ _ _ _ => (g_ix B.u1 (gv 3) (gv 9)))) ga_nil))))))
    (gss_one (gs_set (i := 3) sc_classes_of.nd rfl (by first | exact Or.inl rfl | exact Or.inr rfl) (g_lc (own := [("row", 8)]) rfl sc_classes_of.nd (gi_seq (gv 6)) (blkOk_by (by rfl)) (fun _ _ _ _ _ => (ggv_nm 8 (hN := sc_classes_of.nd))) (good_name (i := 8)) (fun _ _ _ _ _ => gts_nil) (fun _ _ _ _ _ => (g_setdA B.u2 (gv 2) (gv 8) (g_len  (by rfl) C.n_len (ga_cons (gv 2) ga_nil)) ⟨rfl, rfl, rfl, rfl⟩))))))))
    (gss_one (gs_ret (gv 3))))))))
/-! ### reached -/
theorem sc_reached : FnScope ["steps", "found", "met", "at", "goal"] ["steps"] (defScope s_reached) := ⟨rfl, rfl, rfl, by decide +kernel, rfl, by decide +kernel, by decide +kernel⟩
theorem b_reached (C : Fcs K mg fds) : Binds K (fds 3) ["steps"] [] := C.d_reached.bindsN fun _ _ _ _ _ _ us hl => match us, hl with | [_], _ => rfl
noncomputable def m_reached : SM :=
    (seqS (parS 1 2 (consM (lstM (consM (conM (.int 0)) nilM)) (consM (dsp1K (conM (.int 0)) (conM (.bl true))) nilM)))
    (seqS (setS 3 (conM (.int 0)))
    (seqS (whileS (asB (ltM (varM 3) (blM lenV (consM (varM 1) nilM))))
    (seqS (forS (seqI (ixM (varM 0) (ixM (varM 1) (varM 3)))) (nameG 4)
    (ifS (asB (dninM (varM 4) (varM 2))) (seqS (putS (conM (.bl true)) (varM 2) (varM 4))
    (exprS (lmM appV (varM 1) (consM (varM 4) nilM)))) skipS))
    (augS 3 iaddV (conM (.int 1)))))
    (retS (varM 1)))))
noncomputable def F_reached : FM := gcF (runF 5 (m_reached))
theorem fg_reached (C : Fcs K mg fds) : FnG P w K mg base 1 (He.ga K "reached") (fds 3) ["steps"] (F_reached) := fn_gc (fn_g (N := ["steps", "found", "met", "at", "goal"]) (k := 0) C.d_reached sc_reached fun cdv A outer s H E B =>
    (gss_cons (gs_par (i := 1) (j := 2) rfl sc_reached.nd rfl rfl (by decide) rfl rfl (ga_cons (g_lst (ga_cons g_int ga_nil)) (ga_cons (g_dsp1K g_int g_bl) ga_nil)))
    (gss_cons (gs_set (i := 3) sc_reached.nd rfl (by first | exact Or.inl rfl | exact Or.inr rfl) g_int)
    (gss_cons (gs_while B.own (gt_cmp op_lt cmpI_ok (nomark _) (gv 3) (g_len  (by rfl) C.n_len (ga_cons (gv 1) ga_nil)))
    (gss_cons (gs_for B.own rfl (gi_seq (g_ix B.u1 (gv 0) (g_ix B.u1 (gv 1) (gv 3)))) (gg_nm 4 sc_reached.nd) (good_name (i := 4))
    (gss_one (gs_if (gt_dnin B.u1 (gv 4) (gv 2)) (gss_cons (gs_put B.u1 g_bl (gv 2) (gv 4))
    (gss_one (gs_expr (g_app (gv 1) (ga_cons (gv 4) ga_nil))))) gss_nil)))
    (gss_one (gs_aug (i := 3) sc_reached.nd rfl (by first | exact Or.inl rfl | exact Or.inr rfl) g_int ip_add iaddV_ok))))
    (gss_one (gs_ret (gv 1)))))))
/-! ### renumbered -/
theorem sc_renumbered : FnScope ["steps", "marks", "order", "names", "at", "state", "found", "goal"] ["steps", "marks", "order"] (defScope s_renumbered) := ⟨rfl, rfl, rfl, by decide +kernel, rfl, by decide +kernel, by decide +kernel⟩
theorem b_renumbered (C : Fcs K mg fds) : Binds K (fds 4) ["steps", "marks", "order"] [] := C.d_renumbered.bindsN fun _ _ _ _ _ _ us hl => match us, hl with | [_, _, _], _ => rfl
noncomputable def m_renumbered : SM :=
    (seqS (setS 3 (dcM (enumI (consM (varM 2) nilM)) (tupG 2 (consG (nameG 4) (consG (nameG 5) nilG))) yesB (varM 5) (varM 4) [4, 5]))
    (seqS (setS 6 (gcM (blM tupleV (consM (lcM (seqI (varM 2)) (nameG 5) yesB (gcM (blM tupleV (consM (lcM (seqI (ixM (varM 0) (varM 5))) (nameG 7) yesB (ixM (varM 3) (varM 7)) [7]) nilM))) [5]) nilM))))
    (retS (tupM (consM (varM 6) (consM (gcM (blM tupleV (consM (lcM (seqI (varM 2)) (nameG 5) yesB (ixM (varM 1) (varM 5)) [5]) nilM))) nilM))))))
noncomputable def F_renumbered : FM := gcF (runF 8 (m_renumbered))
theorem fg_renumbered (C : Fcs K mg fds) : FnG P w K mg base 1 (He.ga K "renumbered") (fds 4) ["steps", "marks", "order"] (F_renumbered) := fn_gc (fn_g (N := ["steps", "marks", "order", "names", "at", "state", "found", "goal"]) (k := 0) C.d_renumbered sc_renumbered fun cdv A outer s H E B =>
    (gss_cons (gs_set (i := 3) sc_renumbered.nd rfl (by first | exact Or.inl rfl | exact Or.inr rfl) (g_dc (own := [("at", 4), ("state", 5)]) rfl sc_renumbered.nd (gi_enum (by rfl) C.n_enumerate (ga_cons (gv 2) ga_nil)) (blkOk_by (by rfl)) (fun _ _ _ _ _ => (ggv_tup (by rfl) (ggsv_cons (ggv_nm 4 (hN := sc_renumbered.nd)) (ggsv_cons (ggv_nm 5 (hN := sc_renumbered.nd)) ggsv_nil)))) (good_tup (good_cons (good_name (i := 4)) (good_cons (good_name (i := 5)) good_nil))) (fun _ _ _ _ _ => gts_nil) (fun _ _ _ _ _ => (gv 5)) (fun _ _ _ _ _ => (gv 4))))
    (gss_cons (gs_set (i := 6) sc_renumbered.nd rfl (by first | exact Or.inl rfl | exact Or.inr rfl) (g_gc (g_tuple  (by rfl) C.n_tuple (ga_cons (g_lc (own := [("state", 5)]) rfl sc_renumbered.nd (gi_seq (gv 2)) (blkOk_by (by rfl)) (fun _ _ _ _ _ => (ggv_nm 5 (hN := sc_renumbered.nd))) (good_name (i := 5)) (fun _ _ _ _ _ => gts_nil) (fun _ _ _ _ _ => (g_gc (g_tuple  (by rfl) C.n_tuple (ga_cons (g_lc (own := [("goal", 7)]) rfl sc_renumbered.nd (gi_seq (g_ix B.u1 (gv 0) (gv 5))) (blkOk_by (by rfl)) (fun _ _ _ _ _ => (ggv_nm 7 (hN := sc_renumbered.nd))) (good_name (i := 7)) (fun _ _ _ _ _ => gts_nil) (fun _ _ _ _ _ => (g_ix B.u1 (gv 3) (gv 7)))) ga_nil))))) ga_nil))))
    (gss_one (gs_ret (g_tup (ga_cons (gv 6) (ga_cons (g_gc (g_tuple  (by rfl) C.n_tuple (ga_cons (g_lc (own := [("state", 5)]) rfl sc_renumbered.nd (gi_seq (gv 2)) (blkOk_by (by rfl)) (fun _ _ _ _ _ => (ggv_nm 5 (hN := sc_renumbered.nd))) (good_name (i := 5)) (fun _ _ _ _ _ => gts_nil) (fun _ _ _ _ _ => (g_ix B.u1 (gv 1) (gv 5)))) ga_nil))) ga_nil))))))))
/-! ### least -/
theorem sc_least : FnScope ["steps", "marks", "classes", "first", "state", "one", "names", "folded", "its", "goal", "begin", "order", "moved", "told"] ["steps", "marks"] (defScope s_least) := ⟨rfl, rfl, rfl, by decide +kernel, rfl, by decide +kernel, by decide +kernel⟩
theorem b_least (C : Fcs K mg fds) : Binds K (fds 6) ["steps", "marks"] [] := C.d_least.bindsN fun _ _ _ _ _ _ us hl => match us, hl with | [_, _], _ => rfl
noncomputable def m_least : SM :=
    (seqS (asgS (gcM (callM 3 (F_renumbered) (consM (varM 0) (consM (varM 1) (consM (callM 1 (F_reached) (consM (varM 0) nilM)) nilM))))) (tupG 2 (consG (nameG 0) (consG (nameG 1) nilG))))
    (seqS (setS 2 (callM 2 (F_classes_of) (consM (varM 0) (consM (varM 1) nilM))))
    (seqS (setS 3 newKM)
    (seqS (forS (enumI (consM (varM 2) nilM)) (tupG 2 (consG (nameG 4) (consG (nameG 5) nilG)))
    (exprS (setdAM (varM 3) (varM 5) (varM 4))))
    (seqS (setS 6 (dcM (range1I (consM (blM lenV (consM (varM 0) nilM)) nilM)) (nameG 4) yesB (varM 4) (ixM (varM 2) (varM 4)) [4]))
    (seqS (setS 7 (mulTM (lstM (consM (conM .non) nilM)) (blM lenV (consM (varM 3) nilM))))
    (seqS (setS 8 (mulTM (lstM (consM (conM .non) nilM)) (blM lenV (consM (varM 3) nilM))))
    (seqS (lockS 3 (forS (itemsI (varM 3)) (tupG 2 (consG (nameG 5) (consG (nameG 4) nilG)))
    (seqS (putS (gcM (blM tupleV (consM (lcM (seqI (ixM (varM 0) (varM 4))) (nameG 9) yesB (ixM (varM 6) (varM 9)) [9]) nilM))) (varM 7) (varM 5))
    (putS (ixM (varM 1) (varM 4)) (varM 8) (varM 5)))))
    (seqS (setS 10 (ixM (varM 2) (conM (.int 0))))
    (seqS (setS 11 (addM (lstM (consM (varM 10) nilM)) (lcM (range1I (consM (blM lenV (consM (varM 7) nilM)) nilM)) (nameG 5) (asB (neM (varM 5) (varM 10))) (varM 5) [5])))
    (seqS (asgS (callM 3 (F_renumbered) (consM (varM 7) (consM (varM 8) (consM (varM 11) nilM)))) (tupG 2 (consG (nameG 12) (consG (nameG 13) nilG))))
    (retS (gcM (callM 3 (F_renumbered) (consM (varM 12) (consM (varM 13) (consM (callM 1 (F_reached) (consM (varM 12) nilM)) nilM)))))))))))))))))
noncomputable def F_least : FM := gcF (runF 14 (m_least))
theorem fg_least (C : Fcs K mg fds) : FnG P w K mg base 2 (He.ga K "least") (fds 6) ["steps", "marks"] (F_least) := fn_gc (fn_g (N := ["steps", "marks", "classes", "first", "state", "one", "names", "folded", "its", "goal", "begin", "order", "moved", "told"]) (k := 1) C.d_least sc_least fun cdv A outer s H E B =>
    (gss_cons (gs_asg (g_gc (g_callR (ga_cons (gv 0) (ga_cons (gv 1) (ga_cons (g_callR (ga_cons (gv 0) ga_nil) (fg_reached C) (B.room.mono (by decide)) (by rfl) C.g_reached C.d_reached.kp (b_reached C) B.tk) ga_nil))) (fg_renumbered C) (B.room.mono (by decide)) (by rfl) C.g_renumbered C.d_renumbered.kp (b_renumbered C) B.tk)) (gg_tup (by rfl) (ggs_cons (gg_nm 0 sc_least.nd) (ggs_cons (gg_nm 1 sc_least.nd) ggs_nil))) (good_tup (good_cons (good_name (i := 0)) (good_cons (good_name (i := 1)) good_nil))))
    (gss_cons (gs_set (i := 2) sc_least.nd rfl (by first | exact Or.inl rfl | exact Or.inr rfl) (g_callR (ga_cons (gv 0) (ga_cons (gv 1) ga_nil)) (fg_classes_of C) (B.room.mono (by decide)) (by rfl) C.g_classes_of C.d_classes_of.kp (b_classes_of C) B.tk))
    (gss_cons (gs_set (i := 3) sc_least.nd rfl (by first | exact Or.inl rfl | exact Or.inr rfl) g_newK)
    (gss_cons (gs_for B.own rfl (gi_enum (by rfl) C.n_enumerate (ga_cons (gv 2) ga_nil)) (gg_tup (by rfl) (ggs_cons (gg_nm 4 sc_least.nd) (ggs_cons (gg_nm 5 sc_least.nd) ggs_nil))) (good_tup (good_cons (good_name (i := 4)) (good_cons (good_name (i := 5)) good_nil)))
    (gss_one (gs_expr (g_setdA B.u2 (gv 3) (gv 5) (gv 4) ⟨rfl, rfl, rfl, rfl⟩))))
    (gss_cons (gs_set (i := 6) sc_least.nd rfl (by first | exact Or.inl rfl | exact Or.inr rfl) (g_dc (own := [("state", 4)]) rfl sc_least.nd (gi_range1 (by rfl) C.n_range (ga_cons (g_len  (by rfl) C.n_len (ga_cons (gv 0) ga_nil)) ga_nil)) (blkOk_by (by rfl)) (fun _ _ _ _ _ => (ggv_nm 4 (hN := sc_least.nd))) (good_name (i := 4)) (fun _ _ _ _ _ => gts_nil) (fun _ _ _ _ _ => (gv 4)) (fun _ _ _ _ _ => (g_ix B.u1 (gv 2) (gv 4)))))
    (gss_cons (gs_set (i := 7) sc_least.nd rfl (by first | exact Or.inl rfl | exact Or.inr rfl) (g_mulT (g_lst (ga_cons g_non ga_nil)) (g_len  (by rfl) C.n_len (ga_cons (gv 3) ga_nil))))
    (gss_cons (gs_set (i := 8) sc_least.nd rfl (by first | exact Or.inl rfl | exact Or.inr rfl) (g_mulT (g_lst (ga_cons g_non ga_nil)) (g_len  (by rfl) C.n_len (ga_cons (gv 3) ga_nil))))
    (gss_cons (gs_lock (i := 3) (gs_for B.own rfl (gi_items (gv 3)) (gg_tup (by rfl) (ggs_cons (gg_nm 5 sc_least.nd) (ggs_cons (gg_nm 4 sc_least.nd) ggs_nil))) (good_tup (good_cons (good_name (i := 5)) (good_cons (good_name (i := 4)) good_nil)))
    (gss_cons (gs_put B.u1 (g_gc (g_tuple  (by rfl) C.n_tuple (ga_cons (g_lc (own := [("goal", 9)]) rfl sc_least.nd (gi_seq (g_ix B.u1 (gv 0) (gv 4))) (blkOk_by (by rfl)) (fun _ _ _ _ _ => (ggv_nm 9 (hN := sc_least.nd))) (good_name (i := 9)) (fun _ _ _ _ _ => gts_nil) (fun _ _ _ _ _ => (g_ix B.u1 (gv 6) (gv 9)))) ga_nil))) (gv 7) (gv 5))
    (gss_one (gs_put B.u1 (g_ix B.u1 (gv 1) (gv 4)) (gv 8) (gv 5))))))
    (gss_cons (gs_set (i := 10) sc_least.nd rfl (by first | exact Or.inl rfl | exact Or.inr rfl) (g_ix B.u1 (gv 2) g_int))
    (gss_cons (gs_set (i := 11) sc_least.nd rfl (by first | exact Or.inl rfl | exact Or.inr rfl) (g_add (g_lst (ga_cons (gv 10) ga_nil)) (g_lc (own := [("one", 5)]) rfl sc_least.nd (gi_range1 (by rfl) C.n_range (ga_cons (g_len  (by rfl) C.n_len (ga_cons (gv 7) ga_nil)) ga_nil)) (blkOk_by (by rfl)) (fun _ _ _ _ _ => (ggv_nm 5 (hN := sc_least.nd))) (good_name (i := 5)) (fun _ _ _ _ _ => (gts_one (gt_cmp (op_neD B.u64) neV_ok (nomark _) (gv 5) (gv 10)))) (fun _ _ _ _ _ => (gv 5)))))
    (gss_cons (gs_asg (g_callR (ga_cons (gv 7) (ga_cons (gv 8) (ga_cons (gv 11) ga_nil))) (fg_renumbered C) (B.room.mono (by decide)) (by rfl) C.g_renumbered C.d_renumbered.kp (b_renumbered C) B.tk) (gg_tup (by rfl) (ggs_cons (gg_nm 12 sc_least.nd) (ggs_cons (gg_nm 13 sc_least.nd) ggs_nil))) (good_tup (good_cons (good_name (i := 12)) (good_cons (good_name (i := 13)) good_nil))))
    (gss_one (gs_ret (g_gc (g_callR (ga_cons (gv 12) (ga_cons (gv 13) (ga_cons (g_callR (ga_cons (gv 12) ga_nil) (fg_reached C) (B.room.mono (by decide)) (by rfl) C.g_reached C.d_reached.kp (b_reached C) B.tk) ga_nil))) (fg_renumbered C) (B.room.mono (by decide)) (by rfl) C.g_renumbered C.d_renumbered.kp (b_renumbered C) B.tk))))))))))))))))
/-! ### raw_least_row -/
theorem sc_raw_least_row : FnScope ["row"] ["row"] (defScope s_raw_least_row) := ⟨rfl, rfl, rfl, by decide +kernel, rfl, by decide +kernel, by decide +kernel⟩
theorem b_raw_least_row (C : Fcs K mg fds) : Binds K (fds 12) ["row"] [] := C.d_raw_least_row.bindsN fun _ _ _ _ _ _ us hl => match us, hl with | [_], _ => rfl
noncomputable def m_raw_least_row : SM :=
    (retS (addM (tupM (consM (ixM (varM 0) (conM (.int 0))) nilM)) (callM 2 (F_least) (consM (ixM (varM 0) (conM (.int 1))) (consM (ixM (varM 0) (conM (.int 2))) nilM)))))
noncomputable def F_raw_least_row : FM := gcF (runF 1 (m_raw_least_row))
theorem fg_raw_least_row (C : Fcs K mg fds) : FnG P w K mg base 3 (He.ga K "raw_least_row") (fds 12) ["row"] (F_raw_least_row) := fn_gc (fn_g (N := ["row"]) (k := 2) C.d_raw_least_row sc_raw_least_row fun cdv A outer s H E B =>
    (gss_one (gs_ret (g_add (g_tup (ga_cons (g_ix B.u1 (gv 0) g_int) ga_nil)) (g_callR (ga_cons (g_ix B.u1 (gv 0) g_int) (ga_cons (g_ix B.u1 (gv 0) g_int) ga_nil)) (fg_least C) (B.room.mono (by decide)) (by rfl) C.g_least C.d_least.kp (b_least C) B.tk)))))
/-! ### numbered -/
theorem sc_numbered : FnScope ["things", "known", "thing"] ["things"] (defScope s_numbered) := ⟨rfl, rfl, rfl, by decide +kernel, rfl, by decide +kernel, by decide +kernel⟩
theorem b_numbered (C : Fcs K mg fds) : Binds K (fds 14) ["things"] [] := C.d_numbered.bindsN fun _ _ _ _ _ _ us hl => match us, hl with | [_], _ => rfl
noncomputable def m_numberedK : SM :=
    (seqS (setS 1 newKM)
    (retS (lcM (seqI (varM 0)) (nameG 2) yesB (setdAM (varM 1) (varM 2) (blM lenV (consM (varM 1) nilM))) [2])))
noncomputable def F_numberedK : FM := gcF (runF 3 (m_numberedK))
theorem fg_numberedK (C : Fcs K mg fds) : FnG P w K mg base 1 (He.ga K "numbered") (fds 14) ["things"] (F_numberedK) := fn_gc (fn_g (N := ["things", "known", "thing"]) (k := 0) C.d_numbered sc_numbered fun cdv A outer s H E B =>
    (gss_cons (gs_set (i := 1) sc_numbered.nd rfl (by first | exact Or.inl rfl | exact Or.inr rfl) g_newK)
    (gss_one (gs_ret (g_lc (own := [("thing", 2)]) rfl sc_numbered.nd (gi_seq (gv 0)) (blkOk_by (by rfl)) (fun _ _ _ _ _ => (ggv_nm 2 (hN := sc_numbered.nd))) (good_name (i := 2)) (fun _ _ _ _ _ => gts_nil) (fun _ _ _ _ _ => (g_setdA B.u2 (gv 1) (gv 2) (g_len  (by rfl) C.n_len (ga_cons (gv 1) ga_nil)) ⟨rfl, rfl, rfl, rfl⟩)))))))
noncomputable def m_numberedT : SM :=
    (seqS (setS 1 newTM)
    (retS (lcM (seqI (varM 0)) (nameG 2) yesB (setdAM (varM 1) (varM 2) (blM lenV (consM (varM 1) nilM))) [2])))
noncomputable def F_numberedT : FM := gcF (runF 3 (m_numberedT))
theorem fg_numberedT (C : Fcs K mg fds) : FnG P w K mg base 1 (He.ga K "numbered") (fds 14) ["things"] (F_numberedT) := fn_gc (fn_g (N := ["things", "known", "thing"]) (k := 0) C.d_numbered sc_numbered fun cdv A outer s H E B =>
    (gss_cons (gs_set (i := 1) sc_numbered.nd rfl (by first | exact Or.inl rfl | exact Or.inr rfl) g_newT)
    (gss_one (gs_ret (g_lc (own := [("thing", 2)]) rfl sc_numbered.nd (gi_seq (gv 0)) (blkOk_by (by rfl)) (fun _ _ _ _ _ => (ggv_nm 2 (hN := sc_numbered.nd))) (good_name (i := 2)) (fun _ _ _ _ _ => gts_nil) (fun _ _ _ _ _ => (g_setdA B.u2 (gv 1) (gv 2) (g_len  (by rfl) C.n_len (ga_cons (gv 1) ga_nil)) ⟨rfl, rfl, rfl, rfl⟩)))))))
noncomputable def F_numbered : FM := fun ds st => if wantsT ds st = true then F_numberedT ds st else F_numberedK ds st
theorem fg_numbered (C : Fcs K mg fds) : FnG P w K mg base 1 (He.ga K "numbered") (fds 14) ["things"] F_numbered := fn_or (fg_numberedT C) (fg_numberedK C)
/-! ### next_tail -/
theorem sc_next_tail : FnScope ["row", "columns", "kinds", "some", "tail", "figure", "long", "letters", "goals"] ["row", "columns", "kinds"] (defScope s_next_tail) := ⟨rfl, rfl, rfl, by decide +kernel, rfl, by decide +kernel, by decide +kernel⟩
theorem b_next_tail (C : Fcs K mg fds) : Binds K (fds 15) ["row", "columns", "kinds"] [] := C.d_next_tail.bindsN fun _ _ _ _ _ _ us hl => match us, hl with | [_, _, _], _ => rfl
noncomputable def m_next_tail : SM :=
    (seqS (lockS 1 (setS 3 (lc2M (keysI (varM 1)) (nameG 4) yesB (range1I (consM (ixM (varM 0) (conM (.int 0))) nilM)) (nameG 5) yesB (tupM (consM (addM (blM lenV (consM (varM 4) nilM)) (conM (.int 1))) (consM (addM (tupM (consM (varM 5) nilM)) (varM 4)) nilM))) [4, 5] [5])))
    (seqS (forS (seqI (blM sortedV (consM (varM 3) nilM))) (tupG 2 (consG (nameG 6) (consG (nameG 4) nilG)))
    (seqS (setS 7 (lcM (seqI (ixM (varM 0) (conM (.int 1)))) (nameG 8) yesB (ixM (ixM (varM 1) (sliceM (varM 4) (someO (conM (.int 1))) noO)) (ixM (varM 8) (ixM (varM 4) (conM (.int 0))))) [8]))
    (ifS (asB (gtM (gcM (blM maxV (consM (gcM (callM 1 (F_numbered) (consM (lzipM (consM (varM 2) (consM (varM 7) nilM))) nilM))) nilM))) (blM maxV (consM (varM 2) nilM)))) (retS (tupM (consM (varM 4) (consM (varM 7) nilM)))) skipS)))
    (retS (conM .non))))
noncomputable def F_next_tail : FM := gcF (runF 9 (m_next_tail))
theorem fg_next_tail (C : Fcs K mg fds) : FnG P w K mg base 2 (He.ga K "next_tail") (fds 15) ["row", "columns", "kinds"] (F_next_tail) := fn_gc (fn_g (N := ["row", "columns", "kinds", "some", "tail", "figure", "long", "letters", "goals"]) (k := 1) C.d_next_tail sc_next_tail fun cdv A outer s H E B =>
    (gss_cons (gs_lock (i := 1) (gs_setLc2 (i := 3) (own := [("tail", 4), ("figure", 5)]) (vs1 := [5]) rfl sc_next_tail.nd rfl rfl (by rfl) (gi_keys (gv 1)) (blkOk_by (by rfl)) (by decide) (fun _ _ _ _ _ => (ggv_nm 4 (hN := sc_next_tail.nd))) (good_name (i := 4)) (fun _ _ _ _ _ => gts_nil) (fun _ _ _ _ _ => (gi_range1 (by rfl) C.n_range (ga_cons (g_ix B.u1 (gv 0) g_int) ga_nil))) (fun _ _ _ _ _ => (ggv_nm 5 (hN := sc_next_tail.nd))) (good_name (i := 5)) (fun _ _ _ _ _ => gts_nil) (fun _ _ _ _ _ => (g_tup (ga_cons (g_add (g_len  (by rfl) C.n_len (ga_cons (gv 4) ga_nil)) g_int) (ga_cons (g_add (g_tup (ga_cons (gv 5) ga_nil)) (gv 4)) ga_nil))))))
    (gss_cons (gs_for B.own rfl (gi_seq (g_sorted B.u66 (by rfl) C.n_sorted (ga_cons (gv 3) ga_nil))) (gg_tup (by rfl) (ggs_cons (gg_nm 6 sc_next_tail.nd) (ggs_cons (gg_nm 4 sc_next_tail.nd) ggs_nil))) (good_tup (good_cons (good_name (i := 6)) (good_cons (good_name (i := 4)) good_nil)))
    (gss_cons (gs_setLc (i := 7) (own := [("goals", 8)]) rfl sc_next_tail.nd rfl rfl (by rfl) (gi_seq (g_ix B.u1 (gv 0) g_int)) (blkOk_by (by rfl)) (fun _ _ _ _ _ => (ggv_nm 8 (hN := sc_next_tail.nd))) (good_name (i := 8)) (fun _ _ _ _ _ => gts_nil) (fun _ _ _ _ _ => (g_ix B.u1 (g_ix B.u1 (gv 1) (g_slice (gv 4) (go_some g_int) go_none)) (g_ix B.u1 (gv 8) (g_ix B.u1 (gv 4) g_int)))))
    (gss_one (gs_if (gt_cmp op_gt cmpI_ok (nomark _) (g_gc (g_max rfl (by rfl) C.n_max (ga_cons (g_gc (g_callR (ga_cons (g_lzip rfl (by rfl) C.n_list (by rfl) C.n_zip (ga_cons (gv 2) (ga_cons (gv 7) ga_nil))) ga_nil) (fg_numbered C) (B.room.mono (by decide)) (by rfl) C.g_numbered C.d_numbered.kp (b_numbered C) B.tk)) ga_nil))) (g_max rfl (by rfl) C.n_max (ga_cons (gv 2) ga_nil))) (gss_one (gs_ret (g_tup (ga_cons (gv 4) (ga_cons (gv 7) ga_nil))))) gss_nil))))
    (gss_one (gs_ret g_non)))))
/-! ### raw_tails -/
theorem sc_raw_tails : FnScope ["row", "columns", "kinds", "tail", "letters"] ["row"] (defScope s_raw_tails) := ⟨rfl, rfl, rfl, by decide +kernel, rfl, by decide +kernel, by decide +kernel⟩
theorem b_raw_tails (C : Fcs K mg fds) : Binds K (fds 16) ["row"] [] := C.d_raw_tails.bindsN fun _ _ _ _ _ _ us hl => match us, hl with | [_], _ => rfl
noncomputable def m_raw_tails : SM :=
    (seqS (ifS (asB (eqM (blM lenV (consM (ixM (varM 0) (conM (.int 1))) nilM)) (conM (.int 1)))) (retS (lstM nilM)) skipS)
    (seqS (parS 1 2 (consM (dsp1T (tupM nilM) (blM (orC listV listDV) (consM (ixM (varM 0) (conM (.int 2))) nilM))) (consM (callM 1 (F_numbered) (consM (ixM (varM 0) (conM (.int 2))) nilM)) nilM)))
    (seqS (whileS (asB (ltM (addM (blM maxV (consM (varM 2) nilM)) (conM (.int 1))) (blM lenV (consM (ixM (varM 0) (conM (.int 1))) nilM))))
    (seqS (asgS (callM 3 (F_next_tail) (consM (varM 0) (consM (varM 1) (consM (varM 2) nilM)))) (tupG 2 (consG (nameG 3) (consG (nameG 4) nilG))))
    (seqS (putS (varM 4) (varM 1) (varM 3))
    (setS 2 (gcM (callM 1 (F_numbered) (consM (lzipM (consM (varM 2) (consM (varM 4) nilM))) nilM)))))))
    (retS (blM (orC listV listDV) (consM (varM 1) nilM))))))
noncomputable def F_raw_tails : FM := gcF (runF 5 (m_raw_tails))
theorem fg_raw_tails (C : Fcs K mg fds) : FnG P w K mg base 3 (He.ga K "raw_tails") (fds 16) ["row"] (F_raw_tails) := fn_gc (fn_g (N := ["row", "columns", "kinds", "tail", "letters"]) (k := 2) C.d_raw_tails sc_raw_tails fun cdv A outer s H E B =>
    (gss_cons (gs_if (gt_cmp (op_eqD B.u64) eqV_ok (nomark _) (g_len  (by rfl) C.n_len (ga_cons (g_ix B.u1 (gv 0) g_int) ga_nil)) g_int) (gss_one (gs_ret (g_lst ga_nil))) gss_nil)
    (gss_cons (gs_par (i := 1) (j := 2) rfl sc_raw_tails.nd rfl rfl (by decide) rfl rfl (ga_cons (g_dsp1T B.u2 (g_tup ga_nil) (g_listD rfl (by rfl) C.n_list (ga_cons (g_ix B.u1 (gv 0) g_int) ga_nil))) (ga_cons (g_callR (ga_cons (g_ix B.u1 (gv 0) g_int) ga_nil) (fg_numbered C) (B.room.mono (by decide)) (by rfl) C.g_numbered C.d_numbered.kp (b_numbered C) B.tk) ga_nil)))
    (gss_cons (gs_while B.own (gt_cmp op_lt cmpI_ok (nomark _) (g_add (g_max rfl (by rfl) C.n_max (ga_cons (gv 2) ga_nil)) g_int) (g_len  (by rfl) C.n_len (ga_cons (g_ix B.u1 (gv 0) g_int) ga_nil)))
    (gss_cons (gs_asg (g_callR (ga_cons (gv 0) (ga_cons (gv 1) (ga_cons (gv 2) ga_nil))) (fg_next_tail C) (B.room.mono (by decide)) (by rfl) C.g_next_tail C.d_next_tail.kp (b_next_tail C) B.tk) (gg_tup (by rfl) (ggs_cons (gg_nm 3 sc_raw_tails.nd) (ggs_cons (gg_nm 4 sc_raw_tails.nd) ggs_nil))) (good_tup (good_cons (good_name (i := 3)) (good_cons (good_name (i := 4)) good_nil))))
    (gss_cons (gs_put B.u1 (gv 4) (gv 1) (gv 3))
    (gss_one (gs_set (i := 2) sc_raw_tails.nd rfl (by first | exact Or.inl rfl | exact Or.inr rfl) (g_gc (g_callR (ga_cons (g_lzip rfl (by rfl) C.n_list (by rfl) C.n_zip (ga_cons (gv 2) (ga_cons (gv 4) ga_nil))) ga_nil) (fg_numbered C) (B.room.mono (by decide)) (by rfl) C.g_numbered C.d_numbered.kp (b_numbered C) B.tk)))))))
    (gss_one (gs_ret (g_listD rfl (by rfl) C.n_list (ga_cons (gv 1) ga_nil))))))))
/-! ### tails_for -/
theorem sc_tails_for : FnScope ["row"] ["row"] (defScope s_tails_for) := ⟨rfl, rfl, rfl, by decide +kernel, rfl, by decide +kernel, by decide +kernel⟩
theorem b_tails_for (C : Fcs K mg fds) : Binds K (fds 17) ["row"] [] := C.d_tails_for.bindsN fun _ _ _ _ _ _ us hl => match us, hl with | [_], _ => rfl
noncomputable def m_tails_for : SM :=
    (seqS (exprS (callM 1 (F_check_row) (consM (varM 0) nilM)))
    (retS (gcM (blM tupleV (consM (gcM (blM sortedV (consM (gcM (callM 1 (F_raw_tails) (consM (callM 1 (F_raw_least_row) (consM (varM 0) nilM)) nilM))) nilM))) nilM)))))
noncomputable def F_tails_for : FM := gcF (runF 1 (m_tails_for))
theorem fg_tails_for (C : Fcs K mg fds) : FnG P w K mg base 6 (He.ga K "tails_for") (fds 17) ["row"] (F_tails_for) := fn_gc (fn_g (N := ["row"]) (k := 5) C.d_tails_for sc_tails_for fun cdv A outer s H E B =>
    (gss_cons (gs_expr (g_callR (ga_cons (gv 0) ga_nil) (fg_check_row C) (B.room.mono (by decide)) (by rfl) C.g_check_row C.d_check_row.kp (b_check_row C) B.tk))
    (gss_one (gs_ret (g_gc (g_tuple  (by rfl) C.n_tuple (ga_cons (g_gc (g_sorted B.u66 (by rfl) C.n_sorted (ga_cons (g_gc (g_callR (ga_cons (g_callR (ga_cons (gv 0) ga_nil) (fg_raw_least_row C) (B.room.mono (by decide)) (by rfl) C.g_raw_least_row C.d_raw_least_row.kp (b_raw_least_row C) B.tk) ga_nil) (fg_raw_tails C) (B.room.mono (by decide)) (by rfl) C.g_raw_tails C.d_raw_tails.kp (b_raw_tails C) B.tk)) ga_nil))) ga_nil)))))))
/-! ### _law_is_refused -/
theorem sc__law_is_refused : FnScope ["thing"] ["thing"] (defScope s__law_is_refused) := ⟨rfl, rfl, rfl, by decide +kernel, rfl, by decide +kernel, by decide +kernel⟩
theorem b__law_is_refused (C : Fcs K mg fds) : Binds K (fds 26) ["thing"] [] := C.d__law_is_refused.bindsN fun _ _ _ _ _ _ us hl => match us, hl with | [_], _ => rfl
noncomputable def m__law_is_refused : SM :=
    (seqS (tryS (catch1 "NoRow") (exprS (callM 1 (F_tails_for) (consM (varM 0) nilM))) (retS (conM (.bl true))))
    (retS (conM (.bl false))))
noncomputable def F__law_is_refused : FM := gcF (runF 1 (m__law_is_refused))
theorem fg__law_is_refused (C : Fcs K mg fds) : FnG P w K mg base 7 (He.ga K "_law_is_refused") (fds 26) ["thing"] (F__law_is_refused) := fn_gc (fn_g (N := ["thing"]) (k := 6) C.d__law_is_refused sc__law_is_refused fun cdv A outer s H E B =>
    (gss_cons (gs_try B.stack B.frame (by rfl) C.g_NoRow B.tk (catch1_ok C.m_NoRow_NoRow) (fun _ _ _ tk own => (gss_one (gs_expr (g_callR (ga_cons (gv 0) ga_nil) (fg_tails_for C) (B.room.mono (by decide)) (by rfl) C.g_tails_for C.d_tails_for.kp (b_tails_for C) tk)))) (fun _ _ => (gss_one (gs_ret g_bl))))
    (gss_one (gs_ret g_bl))))
/-! ### _law_behind -/
theorem sc__law_behind : FnScope ["row", "state", "tail", "figure"] ["row", "state", "tail"] (defScope s__law_behind) := ⟨rfl, rfl, rfl, by decide +kernel, rfl, by decide +kernel, by decide +kernel⟩
theorem b__law_behind (C : Fcs K mg fds) : Binds K (fds 23) ["row", "state", "tail"] [] := C.d__law_behind.bindsN fun _ _ _ _ _ _ us hl => match us, hl with | [_, _, _], _ => rfl
noncomputable def m__law_behind : SM :=
    (seqS (forS (seqI (varM 2)) (nameG 3)
    (setS 1 (ixM (ixM (ixM (varM 0) (conM (.int 1))) (varM 1)) (varM 3))))
    (retS (ixM (ixM (varM 0) (conM (.int 2))) (varM 1))))
noncomputable def F__law_behind : FM := gcF (runF 4 (m__law_behind))
theorem fg__law_behind (C : Fcs K mg fds) : FnG P w K mg base 1 (He.ga K "_law_behind") (fds 23) ["row", "state", "tail"] (F__law_behind) := fn_gc (fn_g (N := ["row", "state", "tail", "figure"]) (k := 0) C.d__law_behind sc__law_behind fun cdv A outer s H E B =>
    (gss_cons (gs_for B.own rfl (gi_seq (gv 2)) (gg_nm 3 sc__law_behind.nd) (good_name (i := 3))
    (gss_one (gs_set (i := 1) sc__law_behind.nd rfl (by first | exact Or.inl rfl | exact Or.inr rfl) (g_ix B.u1 (g_ix B.u1 (g_ix B.u1 (gv 0) g_int) (gv 1)) (gv 3)))))
    (gss_one (gs_ret (g_ix B.u1 (g_ix B.u1 (gv 0) g_int) (gv 1))))))
/-! ### _law_kinds -/
theorem sc__law_kinds : FnScope ["row", "tails_now", "many", "rows_now", "state", "tail"] ["row", "tails_now"] (defScope s__law_kinds) := ⟨rfl, rfl, rfl, by decide +kernel, rfl, by decide +kernel, by decide +kernel⟩
theorem b__law_kinds (C : Fcs K mg fds) : Binds K (fds 24) ["row", "tails_now"] [] := C.d__law_kinds.bindsN fun _ _ _ _ _ _ us hl => match us, hl with | [_, _], _ => rfl
noncomputable def m__law_kinds : SM :=
    (seqS (setS 2 (blM lenV (consM (ixM (varM 0) (conM (.int 1))) nilM)))
    (seqS (setS 3 (lcM (range1I (consM (varM 2) nilM)) (nameG 4) yesB (gcM (blM tupleV (consM (lcM (seqI (varM 1)) (nameG 5) yesB (callM 3 (F__law_behind) (consM (varM 0) (consM (varM 4) (consM (varM 5) nilM)))) [5]) nilM))) [4]))
    (retS (lenSetM (varM 3)))))
noncomputable def F__law_kinds : FM := gcF (runF 6 (m__law_kinds))
theorem fg__law_kinds (C : Fcs K mg fds) : FnG P w K mg base 2 (He.ga K "_law_kinds") (fds 24) ["row", "tails_now"] (F__law_kinds) := fn_gc (fn_g (N := ["row", "tails_now", "many", "rows_now", "state", "tail"]) (k := 1) C.d__law_kinds sc__law_kinds fun cdv A outer s H E B =>
    (gss_cons (gs_set (i := 2) sc__law_kinds.nd rfl (by first | exact Or.inl rfl | exact Or.inr rfl) (g_len  (by rfl) C.n_len (ga_cons (g_ix B.u1 (gv 0) g_int) ga_nil)))
    (gss_cons (gs_setLc (i := 3) (own := [("state", 4)]) rfl sc__law_kinds.nd rfl rfl (by rfl) (gi_range1 (by rfl) C.n_range (ga_cons (gv 2) ga_nil)) (blkOk_by (by rfl)) (fun _ _ _ _ _ => (ggv_nm 4 (hN := sc__law_kinds.nd))) (good_name (i := 4)) (fun _ _ _ _ _ => gts_nil) (fun _ _ _ _ _ => (g_gc (g_tuple  (by rfl) C.n_tuple (ga_cons (g_lc (own := [("tail", 5)]) rfl sc__law_kinds.nd (gi_seq (gv 1)) (blkOk_by (by rfl)) (fun _ _ _ _ _ => (ggv_nm 5 (hN := sc__law_kinds.nd))) (good_name (i := 5)) (fun _ _ _ _ _ => gts_nil) (fun _ _ _ _ _ => (g_callR (ga_cons (gv 0) (ga_cons (gv 4) (ga_cons (gv 5) ga_nil))) (fg__law_behind C) (B.room.mono (by decide)) (by rfl) C.g__law_behind C.d__law_behind.kp (b__law_behind C) takesB))) ga_nil)))))
    (gss_one (gs_ret (g_lenSet rfl B.u64 (by rfl) C.n_len (by rfl) C.n_set (gv 3)))))))
/-! ### _law_some -/
theorem sc__law_some : FnScope ["hand", "things"] ["hand", "things"] (defScope s__law_some) := ⟨rfl, rfl, rfl, by decide +kernel, rfl, by decide +kernel, by decide +kernel⟩
theorem b__law_some (C : Fcs K mg fds) : Binds K (fds 19) ["hand", "things"] [] := C.d__law_some.bindsN fun _ _ _ _ _ _ us hl => match us, hl with | [_, _], _ => rfl
noncomputable def m__law_some : SM :=
    (retS (ixM (varM 1) (gcM (callM 2 (F__law_draw) (consM (varM 0) (consM (blM lenV (consM (varM 1) nilM)) nilM))))))
noncomputable def F__law_some : FM := gcF (runF 2 (m__law_some))
theorem fg__law_some (C : Fcs K mg fds) : FnG P w K mg base 2 (He.ga K "_law_some") (fds 19) ["hand", "things"] (F__law_some) := fn_gc (fn_g (N := ["hand", "things"]) (k := 1) C.d__law_some sc__law_some fun cdv A outer s H E B =>
    (gss_one (gs_ret (g_ix B.u1 (gv 1) (g_gc (g_callR (ga_cons (gv 0) (ga_cons (g_len  (by rfl) C.n_len (ga_cons (gv 1) ga_nil)) ga_nil)) (fg__law_draw C) (B.room.mono (by decide)) (by rfl) C.g__law_draw C.d__law_draw.kp (b__law_draw C) B.tk))))))
/-! ### _law_row -/
theorem sc__law_row : FnScope ["hand", "b", "many", "letters_now", "state", "steps_now", "letter", "menu", "figure"] ["hand", "b", "many"] (defScope s__law_row) := ⟨rfl, rfl, rfl, by decide +kernel, rfl, by decide +kernel, by decide +kernel⟩
theorem b__law_row (C : Fcs K mg fds) : Binds K (fds 22) ["hand", "b", "many"] [] := C.d__law_row.bindsN fun _ _ _ _ _ _ us hl => match us, hl with | [_, _, _], _ => rfl
noncomputable def m__law_row : SM :=
    (seqS (setS 3 (lcM (range1I (consM (varM 2) nilM)) (nameG 4) yesB (callM 2 (F__law_draw) (consM (varM 0) (consM (conM (.int 3)) nilM))) [4]))
    (seqS (setS 5 (lstM nilM))
    (seqS (forS (seqI (varM 3)) (nameG 6)
    (seqS (setS 7 (lcM (range1I (consM (varM 2) nilM)) (nameG 4) (asB (eqM (ixM (varM 3) (varM 4)) (varM 6))) (varM 4) [4]))
    (exprS (lmM appV (varM 5) (consM (gcM (blM tupleV (consM (addM (lstM (consM (callM 2 (F__law_some) (consM (varM 0) (consM (varM 7) nilM))) nilM)) (lcM (range1I (consM (subM (varM 1) (conM (.int 1))) nilM)) (nameG 8) yesB (callM 2 (F__law_draw) (consM (varM 0) (consM (varM 2) nilM))) [8])) nilM))) nilM)))))
    (retS (tupM (consM (varM 1) (consM (blM tupleV (consM (varM 5) nilM)) (consM (blM tupleV (consM (varM 3) nilM)) nilM))))))))
noncomputable def F__law_row : FM := gcF (runF 9 (m__law_row))
theorem fg__law_row (C : Fcs K mg fds) : FnG P w K mg base 3 (He.ga K "_law_row") (fds 22) ["hand", "b", "many"] (F__law_row) := fn_gc (fn_g (N := ["hand", "b", "many", "letters_now", "state", "steps_now", "letter", "menu", "figure"]) (k := 2) C.d__law_row sc__law_row fun cdv A outer s H E B =>
    (gss_cons (gs_set (i := 3) sc__law_row.nd rfl (by first | exact Or.inl rfl | exact Or.inr rfl) (g_lc (own := [("state", 4)]) rfl sc__law_row.nd (gi_range1 (by rfl) C.n_range (ga_cons (gv 2) ga_nil)) (blkOk_by (by rfl)) (fun _ _ _ _ _ => (ggv_nm 4 (hN := sc__law_row.nd))) (good_name (i := 4)) (fun _ _ _ _ _ => gts_nil) (fun _ _ _ _ _ => (g_callR (ga_cons (gv 0) (ga_cons g_int ga_nil)) (fg__law_draw C) (B.room.mono (by decide)) (by rfl) C.g__law_draw C.d__law_draw.kp (b__law_draw C) takesB))))
    (gss_cons (gs_set (i := 5) sc__law_row.nd rfl (by first | exact Or.inl rfl | exact Or.inr rfl) (g_lst ga_nil))
    (gss_cons (gs_for B.own rfl (gi_seq (gv 3)) (gg_nm 6 sc__law_row.nd) (good_name (i := 6))
    (gss_cons (gs_setLc (i := 7) (own := [("state", 4)]) rfl sc__law_row.nd rfl rfl (by rfl) (gi_range1 (by rfl) C.n_range (ga_cons (gv 2) ga_nil)) (blkOk_by (by rfl)) (fun _ _ _ _ _ => (ggv_nm 4 (hN := sc__law_row.nd))) (good_name (i := 4)) (fun _ _ _ _ _ => (gts_one (gt_cmp (op_eqD B.u64) eqV_ok (nomark _) (g_ix B.u1 (gv 3) (gv 4)) (gv 6)))) (fun _ _ _ _ _ => (gv 4)))
    (gss_one (gs_expr (g_app (gv 5) (ga_cons (g_gc (g_tuple  (by rfl) C.n_tuple (ga_cons (g_add (g_lst (ga_cons (g_callR (ga_cons (gv 0) (ga_cons (gv 7) ga_nil)) (fg__law_some C) (B.room.mono (by decide)) (by rfl) C.g__law_some C.d__law_some.kp (b__law_some C) B.tk) ga_nil)) (g_lc (own := [("figure", 8)]) rfl sc__law_row.nd (gi_range1 (by rfl) C.n_range (ga_cons (g_sub (gv 1) g_int) ga_nil)) (blkOk_by (by rfl)) (fun _ _ _ _ _ => (ggv_nm 8 (hN := sc__law_row.nd))) (good_name (i := 8)) (fun _ _ _ _ _ => gts_nil) (fun _ _ _ _ _ => (g_callR (ga_cons (gv 0) (ga_cons (gv 2) ga_nil)) (fg__law_draw C) (B.room.mono (by decide)) (by rfl) C.g__law_draw C.d__law_draw.kp (b__law_draw C) takesB)))) ga_nil))) ga_nil))))))
    (gss_one (gs_ret (g_tup (ga_cons (gv 1) (ga_cons (g_tuple  (by rfl) C.n_tuple (ga_cons (gv 5) ga_nil)) (ga_cons (g_tuple  (by rfl) C.n_tuple (ga_cons (gv 3) ga_nil)) ga_nil))))))))))
/-! ### _law_tails -/
theorem sc__law_tails : FnScope ["row", "found", "menu", "tail", "figure", "good", "long"] ["row"] (defScope s__law_tails) := ⟨rfl, rfl, rfl, by decide +kernel, rfl, by decide +kernel, by decide +kernel⟩
theorem b__law_tails (C : Fcs K mg fds) : Binds K (fds 25) ["row"] [] := C.d__law_tails.bindsN fun _ _ _ _ _ _ us hl => match us, hl with | [_], _ => rfl
noncomputable def m__law_tails : SM :=
    (seqS (ifS (asB (eqM (blM lenV (consM (ixM (varM 0) (conM (.int 1))) nilM)) (conM (.int 1)))) (retS (tupM nilM)) skipS)
    (seqS (setS 1 (lstM (consM (tupM nilM) nilM)))
    (seqS (whileS (asB (ltM (callM 2 (F__law_kinds) (consM (varM 0) (consM (varM 1) nilM))) (blM lenV (consM (ixM (varM 0) (conM (.int 1))) nilM))))
    (seqS (setS 2 (lstM nilM))
    (seqS (forS (seqI (varM 1)) (nameG 3)
    (exprS (lmM extV (varM 2) (consM (lcM (range1I (consM (ixM (varM 0) (conM (.int 0))) nilM)) (nameG 4) yesB (tupM (consM (addM (blM lenV (consM (varM 3) nilM)) (conM (.int 1))) (consM (addM (tupM (consM (varM 4) nilM)) (varM 3)) nilM))) [4]) nilM))))
    (seqS (setS 5 (lcM (seqI (blM sortedV (consM (varM 2) nilM))) (tupG 2 (consG (nameG 6) (consG (nameG 3) nilG))) (asB (gtM (gcM (callM 2 (F__law_kinds) (consM (varM 0) (consM (addM (varM 1) (lstM (consM (varM 3) nilM))) nilM)))) (callM 2 (F__law_kinds) (consM (varM 0) (consM (varM 1) nilM))))) (varM 3) [6, 3]))
    (exprS (lmM appV (varM 1) (consM (ixM (varM 5) (conM (.int 0))) nilM)))))))
    (retS (gcM (blM tupleV (consM (blM sortedV (consM (varM 1) nilM)) nilM)))))))
noncomputable def F__law_tails : FM := gcF (runF 7 (m__law_tails))
theorem fg__law_tails (C : Fcs K mg fds) : FnG P w K mg base 3 (He.ga K "_law_tails") (fds 25) ["row"] (F__law_tails) := fn_gc (fn_g (N := ["row", "found", "menu", "tail", "figure", "good", "long"]) (k := 2) C.d__law_tails sc__law_tails fun cdv A outer s H E B =>
    (gss_cons (gs_if (gt_cmp (op_eqD B.u64) eqV_ok (nomark _) (g_len  (by rfl) C.n_len (ga_cons (g_ix B.u1 (gv 0) g_int) ga_nil)) g_int) (gss_one (gs_ret (g_tup ga_nil))) gss_nil)
    (gss_cons (gs_set (i := 1) sc__law_tails.nd rfl (by first | exact Or.inl rfl | exact Or.inr rfl) (g_lst (ga_cons (g_tup ga_nil) ga_nil)))
    (gss_cons (gs_while B.own (gt_cmp op_lt cmpI_ok (nomark _) (g_callR (ga_cons (gv 0) (ga_cons (gv 1) ga_nil)) (fg__law_kinds C) (B.room.mono (by decide)) (by rfl) C.g__law_kinds C.d__law_kinds.kp (b__law_kinds C) B.tk) (g_len  (by rfl) C.n_len (ga_cons (g_ix B.u1 (gv 0) g_int) ga_nil)))
    (gss_cons (gs_set (i := 2) sc__law_tails.nd rfl (by first | exact Or.inl rfl | exact Or.inr rfl) (g_lst ga_nil))
    (gss_cons (gs_for B.own rfl (gi_seq (gv 1)) (gg_nm 3 sc__law_tails.nd) (good_name (i := 3))
    (gss_one (gs_expr (g_ext (gv 2) (ga_cons (g_lc (own := [("figure", 4)]) rfl sc__law_tails.nd (gi_range1 (by rfl) C.n_range (ga_cons (g_ix B.u1 (gv 0) g_int) ga_nil)) (blkOk_by (by rfl)) (fun _ _ _ _ _ => (ggv_nm 4 (hN := sc__law_tails.nd))) (good_name (i := 4)) (fun _ _ _ _ _ => gts_nil) (fun _ _ _ _ _ => (g_tup (ga_cons (g_add (g_len  (by rfl) C.n_len (ga_cons (gv 3) ga_nil)) g_int) (ga_cons (g_add (g_tup (ga_cons (gv 4) ga_nil)) (gv 3)) ga_nil))))) ga_nil)))))
    (gss_cons (gs_setLc (i := 5) (own := [("long", 6), ("tail", 3)]) rfl sc__law_tails.nd rfl rfl (by rfl) (gi_seq (g_sorted B.u66 (by rfl) C.n_sorted (ga_cons (gv 2) ga_nil))) (blkOk_by (by rfl)) (fun _ _ _ _ _ => (ggv_tup (by rfl) (ggsv_cons (ggv_nm 6 (hN := sc__law_tails.nd)) (ggsv_cons (ggv_nm 3 (hN := sc__law_tails.nd)) ggsv_nil)))) (good_tup (good_cons (good_name (i := 6)) (good_cons (good_name (i := 3)) good_nil))) (fun _ _ _ _ _ => (gts_one (gt_cmp op_gt cmpI_ok (nomark _) (g_gc (g_callR (ga_cons (gv 0) (ga_cons (g_add (gv 1) (g_lst (ga_cons (gv 3) ga_nil))) ga_nil)) (fg__law_kinds C) (B.room.mono (by decide)) (by rfl) C.g__law_kinds C.d__law_kinds.kp (b__law_kinds C) takesB)) (g_callR (ga_cons (gv 0) (ga_cons (gv 1) ga_nil)) (fg__law_kinds C) (B.room.mono (by decide)) (by rfl) C.g__law_kinds C.d__law_kinds.kp (b__law_kinds C) takesB)))) (fun _ _ _ _ _ => (gv 3)))
    (gss_one (gs_expr (g_app (gv 1) (ga_cons (g_ix B.u1 (gv 5) g_int) ga_nil))))))))
    (gss_one (gs_ret (g_gc (g_tuple  (by rfl) C.n_tuple (ga_cons (g_sorted B.u66 (by rfl) C.n_sorted (ga_cons (gv 1) ga_nil)) ga_nil)))))))))
/-! ### least_row -/
theorem sc_least_row : FnScope ["row"] ["row"] (defScope s_least_row) := ⟨rfl, rfl, rfl, by decide +kernel, rfl, by decide +kernel, by decide +kernel⟩
theorem b_least_row (C : Fcs K mg fds) : Binds K (fds 13) ["row"] [] := C.d_least_row.bindsN fun _ _ _ _ _ _ us hl => match us, hl with | [_], _ => rfl
noncomputable def m_least_row : SM :=
    (seqS (exprS (callM 1 (F_check_row) (consM (varM 0) nilM)))
    (retS (callM 1 (F_raw_least_row) (consM (varM 0) nilM))))
noncomputable def F_least_row : FM := gcF (runF 1 (m_least_row))
theorem fg_least_row (C : Fcs K mg fds) : FnG P w K mg base 6 (He.ga K "least_row") (fds 13) ["row"] (F_least_row) := fn_gc (fn_g (N := ["row"]) (k := 5) C.d_least_row sc_least_row fun cdv A outer s H E B =>
    (gss_cons (gs_expr (g_callR (ga_cons (gv 0) ga_nil) (fg_check_row C) (B.room.mono (by decide)) (by rfl) C.g_check_row C.d_check_row.kp (b_check_row C) B.tk))
    (gss_one (gs_ret (g_callR (ga_cons (gv 0) ga_nil) (fg_raw_least_row C) (B.room.mono (by decide)) (by rfl) C.g_raw_least_row C.d_raw_least_row.kp (b_raw_least_row C) B.tk)))))
/-! ### law -/
theorem sc_law : FnScope ["script", "hand", "known_now", "turn_now", "row", "small", "tails_now", "wrong"] ["script"] (defScope s_law) := ⟨rfl, rfl, rfl, by decide +kernel, rfl, by decide +kernel, by decide +kernel⟩
theorem b_law (C : Fcs K mg fds) : Binds K (fds 27) ["script"] [] := C.d_law.bindsN fun _ _ _ _ _ _ us hl => match us, hl with | [_], _ => rfl
noncomputable def m_law (K : PySem.W.Frag) : SM :=
    (seqS (setS 1 (callM 1 (F__law_hand K) (consM (varM 0) nilM)))
    (seqS (setS 2 (lstM (consM (gcM (callM 1 (F_tails_for) (consM (tupM (consM (conM (.int 2)) (consM (tupM (consM (tupM (consM (conM (.int 0)) (consM (conM (.int 1)) nilM))) (consM (tupM (consM (conM (.int 1)) (consM (conM (.int 0)) nilM))) nilM))) (consM (tupM (consM (conM (.int 0)) (consM (conM (.int 1)) nilM))) nilM)))) nilM))) (consM (gcM (callM 1 (F_tails_for) (consM (tupM (consM (conM (.int 3)) (consM (tupM (consM (tupM (consM (conM (.int 0)) (consM (conM (.int 0)) (consM (conM (.int 0)) nilM)))) nilM)) (consM (tupM (consM (conM (.int 4)) nilM)) nilM)))) nilM))) nilM))))
    (seqS (ifS (notB (asB (gcM (callM 2 ((F__law_is 4)) (consM (varM 2) (consM (lstM (consM (tupM (consM (tupM nilM) nilM)) (consM (tupM nilM) nilM))) nilM)))))) (retS (conM (.bl false))) skipS)
    (seqS (forS (range1I (consM (conM (.int 4)) nilM)) (nameG 3)
    (seqS (setS 4 (gcM (callM 3 (F__law_row) (consM (varM 1) (consM (addM (conM (.int 2)) (callM 2 (F__law_draw) (consM (varM 1) (consM (conM (.int 3)) nilM)))) (consM (addM (conM (.int 1)) (callM 2 (F__law_draw) (consM (varM 1) (consM (conM (.int 7)) nilM)))) nilM))))))
    (seqS (setS 5 (callM 1 (F_least_row) (consM (varM 4) nilM)))
    (seqS (setS 6 (callM 1 (F_tails_for) (consM (varM 4) nilM)))
    (seqS (ifS (orB (asB (neM (varM 6) (callM 1 (F__law_tails) (consM (varM 5) nilM)))) (asB (neM (callM 1 (F_tails_for) (consM (varM 5) nilM)) (varM 6)))) (retS (conM (.bl false))) skipS)
    (seqS (ifS (andB (asB (gtM (blM lenV (consM (ixM (varM 5) (conM (.int 1))) nilM)) (conM (.int 1)))) (asB (neM (gcM (callM 2 (F__law_kinds) (consM (varM 5) (consM (blM (orC listV listDV) (consM (varM 6) nilM)) nilM)))) (blM lenV (consM (ixM (varM 5) (conM (.int 1))) nilM))))) (retS (conM (.bl false))) skipS)
    (seqS (setS 7 (lstM (consM (tupM (consM (ixM (varM 4) (conM (.int 0))) (consM (ixM (varM 4) (conM (.int 1))) nilM))) (consM (tupM (consM (ixM (varM 4) (conM (.int 0))) (consM (ixM (varM 4) (conM (.int 1))) (consM (addM (ixM (varM 4) (conM (.int 2))) (tupM (consM (conM (.int 1)) nilM))) nilM)))) (consM (addM (tupM (consM (conM (.int 1)) nilM)) (sliceM (varM 4) (someO (conM (.int 1))) noO)) (consM (blM (orC listV listDV) (consM (varM 4) nilM)) nilM))))))
    (seqS (exprS (lmM appV (varM 7) (consM (tupM (consM (ixM (varM 4) (conM (.int 0))) (consM (ixM (varM 4) (conM (.int 1))) (consM (mulTM (tupM (consM (conM (.int 10)) nilM)) (blM lenV (consM (ixM (varM 4) (conM (.int 2))) nilM))) nilM)))) nilM)))
    (ifS (notB (asB (gcM (callM 1 (F__law_is_refused) (consM (callM 2 (F__law_some) (consM (varM 1) (consM (varM 7) nilM))) nilM))))) (retS (conM (.bl false))) skipS)))))))))
    (retS (conM (.bl true)))))))
noncomputable def F_law (K : PySem.W.Frag) : FM := gcF (runF 8 (m_law K))
theorem fg_law (C : Fcs K mg fds) : FnG P w K mg base 8 (He.ga K "law") (fds 27) ["script"] (F_law K) := fn_gc (fn_g (N := ["script", "hand", "known_now", "turn_now", "row", "small", "tails_now", "wrong"]) (k := 7) C.d_law sc_law fun cdv A outer s H E B =>
    (gss_cons (gs_set (i := 1) sc_law.nd rfl (by first | exact Or.inl rfl | exact Or.inr rfl) (g_callR (ga_cons (gv 0) ga_nil) (fg__law_hand C) (B.room.mono (by decide)) (by rfl) C.g__law_hand C.d__law_hand.kp (b__law_hand C) B.tk))
    (gss_cons (gs_set (i := 2) sc_law.nd rfl (by first | exact Or.inl rfl | exact Or.inr rfl) (g_lst (ga_cons (g_gc (g_callR (ga_cons (g_tup (ga_cons g_int (ga_cons (g_tup (ga_cons (g_tup (ga_cons g_int (ga_cons g_int ga_nil))) (ga_cons (g_tup (ga_cons g_int (ga_cons g_int ga_nil))) ga_nil))) (ga_cons (g_tup (ga_cons g_int (ga_cons g_int ga_nil))) ga_nil)))) ga_nil) (fg_tails_for C) (B.room.mono (by decide)) (by rfl) C.g_tails_for C.d_tails_for.kp (b_tails_for C) B.tk)) (ga_cons (g_gc (g_callR (ga_cons (g_tup (ga_cons g_int (ga_cons (g_tup (ga_cons (g_tup (ga_cons g_int (ga_cons g_int (ga_cons g_int ga_nil)))) ga_nil)) (ga_cons (g_tup (ga_cons g_int ga_nil)) ga_nil)))) ga_nil) (fg_tails_for C) (B.room.mono (by decide)) (by rfl) C.g_tails_for C.d_tails_for.kp (b_tails_for C) B.tk)) ga_nil))))
    (gss_cons (gs_if (gt_not (gt_val (g_gc (g_callR (ga_cons (gv 2) (ga_cons (g_lst (ga_cons (g_tup (ga_cons (g_tup ga_nil) ga_nil)) (ga_cons (g_tup ga_nil) ga_nil))) ga_nil)) (fg__law_is C 4) (B.room.mono (by decide)) (by rfl) C.g__law_is C.d__law_is.kp (b__law_is C) B.tk)))) (gss_one (gs_ret g_bl)) gss_nil)
    (gss_cons (gs_for B.own rfl (gi_range1 (by rfl) C.n_range (ga_cons g_int ga_nil)) (gg_nm 3 sc_law.nd) (good_name (i := 3))
    (gss_cons (gs_set (i := 4) sc_law.nd rfl (by first | exact Or.inl rfl | exact Or.inr rfl) (g_gc (g_callR (ga_cons (gv 1) (ga_cons (g_add g_int (g_callR (ga_cons (gv 1) (ga_cons g_int ga_nil)) (fg__law_draw C) (B.room.mono (by decide)) (by rfl) C.g__law_draw C.d__law_draw.kp (b__law_draw C) B.tk)) (ga_cons (g_add g_int (g_callR (ga_cons (gv 1) (ga_cons g_int ga_nil)) (fg__law_draw C) (B.room.mono (by decide)) (by rfl) C.g__law_draw C.d__law_draw.kp (b__law_draw C) B.tk)) ga_nil))) (fg__law_row C) (B.room.mono (by decide)) (by rfl) C.g__law_row C.d__law_row.kp (b__law_row C) B.tk)))
    (gss_cons (gs_set (i := 5) sc_law.nd rfl (by first | exact Or.inl rfl | exact Or.inr rfl) (g_callR (ga_cons (gv 4) ga_nil) (fg_least_row C) (B.room.mono (by decide)) (by rfl) C.g_least_row C.d_least_row.kp (b_least_row C) B.tk))
    (gss_cons (gs_set (i := 6) sc_law.nd rfl (by first | exact Or.inl rfl | exact Or.inr rfl) (g_callR (ga_cons (gv 4) ga_nil) (fg_tails_for C) (B.room.mono (by decide)) (by rfl) C.g_tails_for C.d_tails_for.kp (b_tails_for C) B.tk))
    (gss_cons (gs_if (gt_w (gw_or (gt_cmp (op_neD B.u64) neV_ok (nomark _) (gv 6) (g_callR (ga_cons (gv 5) ga_nil) (fg__law_tails C) (B.room.mono (by decide)) (by rfl) C.g__law_tails C.d__law_tails.kp (b__law_tails C) B.tk)) (gw_or1 (gt_cmp (op_neD B.u64) neV_ok (nomark _) (g_callR (ga_cons (gv 5) ga_nil) (fg_tails_for C) (B.room.mono (by decide)) (by rfl) C.g_tails_for C.d_tails_for.kp (b_tails_for C) B.tk) (gv 6))))) (gss_one (gs_ret g_bl)) gss_nil)
    (gss_cons (gs_if (gt_w (gw_and (gt_cmp op_gt cmpI_ok (nomark _) (g_len  (by rfl) C.n_len (ga_cons (g_ix B.u1 (gv 5) g_int) ga_nil)) g_int) (gw_and1 (gt_cmp (op_neD B.u64) neV_ok (nomark _) (g_gc (g_callR (ga_cons (gv 5) (ga_cons (g_listD rfl (by rfl) C.n_list (ga_cons (gv 6) ga_nil)) ga_nil)) (fg__law_kinds C) (B.room.mono (by decide)) (by rfl) C.g__law_kinds C.d__law_kinds.kp (b__law_kinds C) B.tk)) (g_len  (by rfl) C.n_len (ga_cons (g_ix B.u1 (gv 5) g_int) ga_nil)))))) (gss_one (gs_ret g_bl)) gss_nil)
    (gss_cons (gs_set (i := 7) sc_law.nd rfl (by first | exact Or.inl rfl | exact Or.inr rfl) (g_lst (ga_cons (g_tup (ga_cons (g_ix B.u1 (gv 4) g_int) (ga_cons (g_ix B.u1 (gv 4) g_int) ga_nil))) (ga_cons (g_tup (ga_cons (g_ix B.u1 (gv 4) g_int) (ga_cons (g_ix B.u1 (gv 4) g_int) (ga_cons (g_add (g_ix B.u1 (gv 4) g_int) (g_tup (ga_cons g_int ga_nil))) ga_nil)))) (ga_cons (g_add (g_tup (ga_cons g_int ga_nil)) (g_slice (gv 4) (go_some g_int) go_none)) (ga_cons (g_listD rfl (by rfl) C.n_list (ga_cons (gv 4) ga_nil)) ga_nil))))))
    (gss_cons (gs_expr (g_app (gv 7) (ga_cons (g_tup (ga_cons (g_ix B.u1 (gv 4) g_int) (ga_cons (g_ix B.u1 (gv 4) g_int) (ga_cons (g_mulT (g_tup (ga_cons g_int ga_nil)) (g_len  (by rfl) C.n_len (ga_cons (g_ix B.u1 (gv 4) g_int) ga_nil))) ga_nil)))) ga_nil)))
    (gss_one (gs_if (gt_not (gt_val (g_gc (g_callR (ga_cons (g_callR (ga_cons (gv 1) (ga_cons (gv 7) ga_nil)) (fg__law_some C) (B.room.mono (by decide)) (by rfl) C.g__law_some C.d__law_some.kp (b__law_some C) B.tk) ga_nil) (fg__law_is_refused C) (B.room.mono (by decide)) (by rfl) C.g__law_is_refused C.d__law_is_refused.kp (b__law_is_refused C) B.tk)))) (gss_one (gs_ret g_bl)) gss_nil))))))))))
    (gss_one (gs_ret g_bl)))))))
end
end Fx
-- levels: {'_law_draw': 1, '_law_hand': 1, '_law_is': 1, 'are_steps': 1, 'is_integer': 1, 'is_within': 2, 'is_base': 3, 'is_letter': 3, 'is_proof': 1, 'is_row': 4, 'check_row': 5, 'classes_of': 1, 'reached': 1, 'renumbered': 1, 'least': 2, 'raw_least_row': 3, 'numbered': 1, 'next_tail': 2, 'raw_tails': 3, 'tails_for': 6, '_law_is_refused': 7, '_law_behind': 1, '_law_kinds': 2, '_law_some': 2, '_law_row': 3, '_law_tails': 3, 'least_row': 6, 'law': 8}
namespace Fx
open PySem PySem.Spec PyProof.Rows L2

/-! ### ints, nats -/
theorem atI_nat {α : Type} {xs : List α} {i : Nat} : atI xs (i : Int) = xs[i]? := by
  unfold atI ixN
  by_cases h : i < xs.length
  · simp [h]
  · simp [h]
@[simp] theorem atI_2 {α : Type} {xs : List α} : atI xs 2 = xs[2]? := atI_nat (i := 2)
@[simp] theorem atI_3 {α : Type} {xs : List α} : atI xs 3 = xs[3]? := atI_nat (i := 3)
@[simp] theorem atI_4 {α : Type} {xs : List α} : atI xs 4 = xs[4]? := atI_nat (i := 4)
@[simp] theorem atI_5 {α : Type} {xs : List α} : atI xs 5 = xs[5]? := atI_nat (i := 5)
@[simp] theorem atI_6 {α : Type} {xs : List α} : atI xs 6 = xs[6]? := atI_nat (i := 6)
@[simp] theorem atI_7 {α : Type} {xs : List α} : atI xs 7 = xs[7]? := atI_nat (i := 7)
@[simp] theorem atI_0 {α : Type} {xs : List α} : atI xs 0 = xs[0]? := atI_nat (i := 0)
@[simp] theorem atI_1 {α : Type} {xs : List α} : atI xs 1 = xs[1]? := atI_nat (i := 1)
@[simp] theorem k_int_int : kitB "int" "int" = some true := by decide +kernel
@[simp] theorem k_int_bool : kitB "int" "bool" = some false := by decide +kernel
@[simp] theorem k_int_str : kitB "int" "str" = some false := by decide +kernel
@[simp] theorem k_int_tuple : kitB "int" "tuple" = some false := by decide +kernel
@[simp] theorem k_int_list : kitB "int" "list" = some false := by decide +kernel
@[simp] theorem k_tuple_tuple : kitB "tuple" "tuple" = some true := by decide +kernel
@[simp] theorem k_tuple_list : kitB "tuple" "list" = some false := by decide +kernel
@[simp] theorem k_list_tuple : kitB "list" "tuple" = some false := by decide +kernel
@[simp] theorem k_list_list : kitB "list" "list" = some true := by decide +kernel
@[simp] theorem k_tuple_int : kitB "tuple" "int" = some false := by decide +kernel
@[simp] theorem k_tuple_bool : kitB "tuple" "bool" = some false := by decide +kernel
@[simp] theorem k_list_int : kitB "list" "int" = some false := by decide +kernel
theorem shaped_int {i : Int} : SeqAt.shaped (.int i) = true := by
  simp [SeqAt.shaped, PyData.canLay0, PyData.depth]
theorem eqB_int {i j : Int} {st : Store} : eqB st (.int i) (.int j) = some (decide (i = j)) := by
  unfold eqB pyD
  simp only [shaped_int, and_self, if_true, Option.some.injEq]
  simp only [PyData.eqv]
  cases h : (i == j) <;> simp_all
@[simp] theorem eqV_int {i j : Int} {st : Store} : eqV (.int i) (.int j) st = .ok (.bl (decide (i = j))) st := by simp only [eqV, eqB_int]
@[simp] theorem neV_int {i j : Int} {st : Store} : neV (.int i) (.int j) st = .ok (.bl (!decide (i = j))) st := by simp only [neV, eqB_int]
theorem F_is_integer_int {i : Int} {st : Store} : F_is_integer [.int i] st = .ok (.bl true) st := by
  simp [F_is_integer, gcF, runF, m_is_integer, gc_id]
theorem F_is_within_int {i lo hi : Int} {st : Store} : F_is_within [.int i, .int lo, .int hi] st = .ok (.bl (decide (lo ≤ i) && decide (i ≤ hi))) st := by
  by_cases h : lo ≤ i <;> simp [F_is_within, gcF, runF, m_is_within, gc_id, F_is_integer_int, h]
theorem F_is_base_int {i : Int} {st : Store} : F_is_base [.int i] st = .ok (.bl (decide (2 ≤ i) && decide (i ≤ 16))) st := by
  simp [F_is_base, gcF, runF, m_is_base, gc_id, F_is_within_int]
theorem F_is_letter_int {i : Int} {st : Store} : F_is_letter [.int i] st = .ok (.bl (decide (0 ≤ i) && decide (i ≤ 9))) st := by
  simp [F_is_letter, gcF, runF, m_is_letter, gc_id, F_is_within_int]

/-! ### the hand -/
structure Hand (st : Store) (l : Nat) (p v s k : Int) : Prop where
  ex : ∃ (c : Nat) (cells : List Int), st[l]? = some (.lst [.loc c, .int p, .int v, .int s, .int k]) ∧ st[c]? = some (.lst (cells.map D.int)) ∧ l ≠ c ∧ (∀ x ∈ cells, (0 : Int) ≤ x)
  hp : 0 ≤ p
  hv : 0 ≤ v
@[simp] theorem ixN_unf {n : Nat} {i : Int} : ixN n i = (if 0 ≤ i then (if i < n then some i.toNat else none) else if -(n : Int) ≤ i then some (i + n).toNat else none) := rfl
theorem F_draw {st : Store} {l : Nat} {p v s k span : Int} (h : Hand st l p v s k) (hs : 0 < span) (hs2 : span < 1000) :
    ∃ (r p' v' s' k' : Int) (c : Nat), F__law_draw [.loc l, .int span] st = .ok (.int r) (st.set l (.lst [.loc c, .int p', .int v', .int s', .int k'])) ∧ 0 ≤ r ∧ r < span ∧ Hand (st.set l (.lst [.loc c, .int p', .int v', .int s', .int k'])) l p' v' s' k' := by
  obtain ⟨⟨c, cells, h1, h2, h3, h4⟩, hp, hv⟩ := h
  have hl := lt_old h1
  have hlc : ∀ x, (st.set l x)[c]? = some (.lst (cells.map D.int)) := fun x => by rw [List.getElem?_set_ne h3]; exact h2
  have hll : ∀ x, (st.set l x)[l]? = some x := fun x => List.getElem?_set_self hl
  have hs3 : ¬ span = 0 := by omega
  have hs4 : span < 1073741824 := by omega
  have fin : ∀ (X p' v' s' k' : Int), F__law_draw [.loc l, .int span] st = gc st (.ok (.int (X % span)) (st.set l (.lst [.loc c, .int p', .int v', .int s', .int k']))) → 0 ≤ p' → 0 ≤ v' →
      ∃ (r p' v' s' k' : Int) (c : Nat), F__law_draw [.loc l, .int span] st = .ok (.int r) (st.set l (.lst [.loc c, .int p', .int v', .int s', .int k'])) ∧ 0 ≤ r ∧ r < span ∧ Hand (st.set l (.lst [.loc c, .int p', .int v', .int s', .int k'])) l p' v' s' k' := by
    intro X p' v' s' k' e2 h5 h6
    refine ⟨X % span, p', v', s', k', c, ?_, Int.emod_nonneg _ hs3, Int.emod_lt_of_pos _ hs, ⟨c, cells, hll _, hlc _, h3, h4⟩, h5, h6⟩
    rw [e2]
    exact gc_same (by simp) (by simp)
  have hm1 : ∀ x : Int, 0 ≤ x % 2147483647 := fun x => Int.emod_nonneg _ (by decide)
  have hm2 : ∀ x : Int, x % 2147483647 < 2147483647 := fun x => Int.emod_lt_of_pos _ (by decide)
  have big : ∀ x : Int, 0 ≤ x % 2147483647 → x % 2147483647 < 2147483647 → (-18446744073709551616 < x % 2147483647 ∧ x % 2147483647 < 18446744073709551616) := fun x h1 h2 => ⟨by omega, by omega⟩
  by_cases hv0 : v = 0
  · by_cases hpl : p < cells.length
    · have hpn : p.toNat < cells.length := by omega
      obtain ⟨q, rfl⟩ : ∃ q : Nat, p = (q : Int) := ⟨p.toNat, by omega⟩
      have hq : q < cells.length := by omega
      have hcell : cells[q]? = some cells[q] := by simp [hq]
      have hnn : 0 ≤ cells[q] := h4 _ (List.getElem_mem hq)
      by_cases hbig : (1000000000000000000 : Int) ≤ cells[q]
      · have hpos : 0 < cells[q] := by omega
        refine fin ?X (q + 1) ?v ?s k ?e (by omega) ?g
        case e =>
          simp only [F__law_draw, gcF, runF, m__law_draw]
          simp [h1, hv0, hpl, h2, hll, hlc, hs, hs4, hq, hcell, atI_nat, hbig, hpos]
          rfl
        case g => exact Int.ediv_nonneg hnn (by omega)
      · refine fin ?X2 (q + 1) 0 ?s2 (k + 1) ?e2 (by omega) (Int.le_refl _)
        case e2 =>
          simp only [F__law_draw, gcF, runF, m__law_draw]
          simp [h1, hv0, hpl, h2, hll, hlc, hs, hs4, hq, hcell, atI_nat, hbig, big, hm1, hm2]
          rfl
    · refine fin ?X3 p 0 s (k + 1) ?e3 hp (Int.le_refl _)
      case e3 =>
        simp only [F__law_draw, gcF, runF, m__law_draw]
        simp [h1, hv0, hpl, h2, hll, hlc, hs, big, hm1, hm2]
        rfl
  · have hpos : 0 < v := by omega
    refine fin v p (v / span) s k ?e4 hp (Int.ediv_nonneg hv (by omega))
    case e4 =>
      simp only [F__law_draw, gcF, runF, m__law_draw]
      simp [h1, hv0, h2, hll, hlc, hs, hs4, hpos]
end Fx
namespace Fx
open PySem PySem.Spec PyProof.Rows L2

abbrev eN (n : Nat) : D := .int n
abbrev eL (l : List Nat) : D := .tup (l.map eN)
abbrev eS (s : List (List Nat)) : D := .tup (s.map eL)
theorem ixN_nat {n i : Nat} : ixN n (i : Int) = if i < n then some i else none := by
  unfold ixN
  simp
theorem eN_lows {n} (l : List Nat) : D.lowsL n (l.map eN) = true := lowsL_all fun d hd => by
  obtain ⟨x, _, rfl⟩ := List.mem_map.mp hd; simp
theorem eL_lows {n} (l : List Nat) : D.lows n (eL l) = true := by rw [lows_tup]; exact eN_lows l
theorem eS_lows {n} (s : List (List Nat)) : D.lows n (eS s) = true := by
  rw [lows_tup]
  exact lowsL_all fun d hd => by obtain ⟨x, _, rfl⟩ := List.mem_map.mp hd; exact eL_lows x
/-! ### reached -/
def addNew (f goals : List Nat) : List Nat := goals.foldl (fun f g => if g ∈ f then f else f ++ [g]) f
def bfs (steps : List (List Nat)) : Nat → List Nat → Nat → List Nat
  | 0, f, _ => f
  | k + 1, f, a => if h : a < f.length then bfs steps k (addNew f (steps.getD f[a] [])) (a + 1) else f
def reachedF (steps : List (List Nat)) : List Nat := bfs steps (steps.length + 1) [0] 0
structure Valid (steps : List (List Nat)) : Prop where
  pos : 0 < steps.length
  lt : ∀ r ∈ steps, ∀ g ∈ r, g < steps.length
  few : steps.length ≤ 1000
  thin : ∀ r ∈ steps, r.length ≤ 1000
abbrev kT (n : Nat) : Key × D := (.inl (n : Int), .bl true)
theorem getK_kT (f : List Nat) (g : Nat) : getK (f.map kT) (.inl (g : Int)) = if g ∈ f then some (.bl true) else none := by
  unfold getK
  induction f with
  | nil => rfl
  | cons x f ih =>
    rw [List.map_cons, List.find?_cons]
    by_cases h : x = g
    · subst h; simp
    · have : ¬ (Sum.inl (x : Int) : Key) = .inl (g : Int) := fun e => h (by injection e with e; omega)
      simp only [this, decide_false]
      rw [ih]
      simp [Ne.symm h]
theorem putD_kT (f : List Nat) (g : Nat) (h : g ∉ f) : putD (f.map kT) (.inl (g : Int)) (.bl true) = (f ++ [g]).map kT := by
  unfold putD
  have : ((f.map kT).any fun kv => decide (kv.1 = (.inl (g : Int) : Key))) = false := by
    rw [List.any_eq_false]
    intro x hx
    obtain ⟨y, hy, rfl⟩ := List.mem_map.mp hx
    have : y ≠ g := fun e => h (e ▸ hy)
    simp; omega
  rw [this]; simp
theorem addNew_cons {f : List Nat} {g : Nat} {gs : List Nat} : addNew f (g :: gs) = addNew (if g ∈ f then f else f ++ [g]) gs := rfl
theorem addNew_nodup : ∀ {gs f : List Nat}, f.Nodup → (addNew f gs).Nodup
  | [], _, h => h
  | g :: gs, f, h => by
    rw [addNew_cons]
    split
    · exact addNew_nodup h
    · rename_i hg
      exact addNew_nodup (List.nodup_append.mpr ⟨h, by simp, fun a ha b hb e => by simp at hb; subst hb; subst e; exact hg ha⟩)
theorem addNew_mem : ∀ {gs f : List Nat} {x : Nat}, x ∈ addNew f gs ↔ x ∈ f ∨ x ∈ gs
  | [], _, _ => by simp [addNew]
  | g :: gs, f, x => by
    rw [addNew_cons, addNew_mem (gs := gs)]
    split
    · rename_i hg
      constructor
      · rintro (h | h)
        · exact .inl h
        · exact .inr (List.mem_cons_of_mem _ h)
      · rintro (h | h)
        · exact .inl h
        · rcases List.mem_cons.mp h with rfl | h
          · exact .inl hg
          · exact .inr h
    · simp only [List.mem_append, List.mem_cons, List.not_mem_nil, or_false]
      constructor
      · rintro ((h | h) | h)
        · exact .inl h
        · exact .inr (.inl h)
        · exact .inr (.inr h)
      · rintro (h | h | h)
        · exact .inl (.inl h)
        · exact .inl (.inr h)
        · exact .inr h
theorem addNew_len : ∀ {gs f : List Nat}, f.length ≤ (addNew f gs).length
  | [], f => Nat.le_refl _
  | g :: gs, f => by
    rw [addNew_cons]
    split
    · exact addNew_len
    · exact Nat.le_trans (by simp) (addNew_len (gs := gs))
theorem nodup_lt_len {n : Nat} {f : List Nat} (h : f.Nodup) (hl : ∀ x ∈ f, x < n) : f.length ≤ n := by
  have := nd_le (m := List.range n) h fun x hx => List.mem_range.mpr (hl x hx)
  simpa using this
@[simp] theorem eN_len {l : List Nat} : (l.map eN).length = l.length := by simp
theorem seq_at {xs : List D} {st : Store} {a : Nat} {d : D} (h : xs[a]? = some d) : True := trivial
theorem bfs_stop {steps : List (List Nat)} {k a : Nat} {f : List Nat} (h : f.length ≤ a) : bfs steps k f a = f := by
  cases k with
  | zero => rfl
  | succ k => unfold bfs; rw [dif_neg (by omega)]
/-- one row of goals -/
theorem reached_row {S : D} {st : Store} {a : Nat} (gs : List Nat) (hz : ∀ f : List Nat, f.Nodup → (∀ x ∈ f, x ∈ addNew f gs) → True) (f0 : List Nat) (hf : (addNew f0 gs).length ≤ 1000) (o : Option D) :
    ∃ o', forGo [] (nameG 4) (ifS (asB (dninM (varM 4) (varM 2))) (seqS (putS (conM (.bl true)) (varM 2) (varM 4)) (exprS (lmM appV (varM 1) (consM (varM 4) nilM)))) skipS) (gs.map eN)
      [some S, some (.loc st.length), some (.loc (st.length + 1)), some (.int a), o] (st ++ [.lst (f0.map eN), .dK (f0.map kT)]) =
      .ok .nx [some S, some (.loc st.length), some (.loc (st.length + 1)), some (.int a), o'] (st ++ [.lst ((addNew f0 gs).map eN), .dK ((addNew f0 gs).map kT)]) := by
  induction gs generalizing f0 o with
  | nil => exact ⟨o, forGo_nil gok_nil⟩
  | cons g gs ih =>
    rw [addNew_cons] at hf ⊢
    have hl := addNew_len (gs := gs) (f := if g ∈ f0 then f0 else f0 ++ [g])
    obtain ⟨o', e⟩ := ih (fun _ _ _ => trivial) _ hf (some (eN g))
    refine ⟨o', ?_⟩
    rw [← e, List.map_cons]
    refine forGo_cons gok_nil rfl ?_
    by_cases hg : g ∈ f0
    · simp [dninV, getK_kT, hg]
    · rw [if_neg hg] at hl hf
      have h1 : f0.length < 16777216 := by rw [List.length_append] at hl; omega
      have e3 := putD_kT f0 g hg
      simp [dninV, getK_kT, hg, dPut, sizeLine_eq, h1, appV, e3]
theorem F_reached_eq {steps : List (List Nat)} {st : Store} (hv : Valid steps) : F_reached [eS steps] st = .ok (.loc st.length) (st ++ [.lst ((reachedF steps).map eN)]) := by
  have key : ∃ δ, whileS (asB (ltM (varM 3) (blM lenV (consM (varM 1) nilM))))
      (seqS (forS (seqI (ixM (varM 0) (ixM (varM 1) (varM 3)))) (nameG 4) (ifS (asB (dninM (varM 4) (varM 2))) (seqS (putS (conM (.bl true)) (varM 2) (varM 4)) (exprS (lmM appV (varM 1) (consM (varM 4) nilM)))) skipS)) (augS 3 iaddV (conM (.int 1))))
      [some (eS steps), some (.loc st.length), some (.loc (st.length + 1)), some (.int 0), none] (st ++ [.lst [.int 0], .dK [(.inl 0, .bl true)]]) =
      .ok .nx δ (st ++ [.lst ((reachedF steps).map eN), .dK ((reachedF steps).map kT)]) ∧ δ[1]? = some (some (.loc st.length)) := by
    refine whileS_rule (Q := fun r => ∃ δ, r = .ok .nx δ (st ++ [.lst ((reachedF steps).map eN), .dK ((reachedF steps).map kT)]) ∧ δ[1]? = some (some (.loc st.length)))
      (fun m δ s => ∃ (f : List Nat) (a : Nat) (o : Option D), m = steps.length - a ∧ f.Nodup ∧ (∀ x ∈ f, x < steps.length) ∧ a ≤ f.length ∧ bfs steps (m + 1) f a = reachedF steps ∧ δ = [some (eS steps), some (.loc st.length), some (.loc (st.length + 1)), some (.int a), o] ∧ s = st ++ [.lst (f.map eN), .dK (f.map kT)])
      ?_ steps.length _ _ ⟨[0], 0, none, by omega, by simp, by intro x hx; simp at hx; subst hx; exact hv.pos, by simp, rfl, rfl, rfl⟩
    rintro m δ s ⟨f, a, o, rfl, nd, hlt, hle, hb, rfl, rfl⟩
    have hfl := nodup_lt_len nd hlt
    by_cases ha : a < f.length
    · right
      refine ⟨st ++ [.lst (f.map eN), .dK (f.map kT)], by simp [ha], ?_⟩
      have hfa : f[a]? = some f[a] := by simp [ha]
      have hx := hlt f[a] (List.getElem_mem ha)
      have hs : steps[f[a]]? = some steps[f[a]] := by simp [hx]
      have hr := List.getElem_mem hx
      have ef : (addNew f steps[f[a]]).Nodup := addNew_nodup nd
      have el : ∀ x ∈ addNew f steps[f[a]], x < steps.length := fun x h => by
        rcases addNew_mem.mp h with h | h
        · exact hlt x h
        · exact hv.lt _ hr x h
      have hn := nodup_lt_len ef el
      have hfew := hv.few
      obtain ⟨o', e⟩ := reached_row (S := eS steps) (st := st) (a := a) steps[f[a]] (fun _ _ _ => trivial) f (by omega) o
      have hgl := addNew_len (gs := steps[f[a]]) (f := f)
      unfold bfs at hb
      rw [dif_pos ha] at hb
      have hgd : steps.getD f[a] [] = steps[f[a]] := by simp [hx]
      rw [hgd] at hb
      simp [forS, seqI, atI_nat, hfa, hs, e, stepOk]
      refine ⟨steps.length - (a + 1), by omega, addNew f steps[f[a]], a + 1, by omega, ef, el, by omega, ?_, by simp, rfl, rfl⟩
      rw [← hb]
      congr 1
      omega
    · left
      rw [bfs_stop (by omega)] at hb
      refine ⟨st ++ [.lst (f.map eN), .dK (f.map kT)], by simp [ha], [some (eS steps), some (.loc st.length), some (.loc (st.length + 1)), some (.int a), o], by rw [hb], rfl⟩
  obtain ⟨δ, e, e1⟩ := key
  simp only [F_reached, gcF, runF, m_reached]
  simp [dsp1K, sizeLine_eq, e, e1]
  exact gc_loc0 (by show D.lowsL _ _ = true; exact eN_lows _)
end Fx
namespace Fx
open PySem PySem.Spec PyProof.Rows L2
theorem seqOf_app {d : D} {st t : Store} {xs : List D} (h : seqOf d st = some xs) : seqOf d (st ++ t) = some xs := by
  cases d with
  | tup ds => exact h
  | loc l =>
    simp only [seqOf] at h ⊢
    cases hs : st[l]? with
    | none => rw [hs] at h; cases h
    | some mo => rw [hs] at h; rw [at_old hs]; exact h
  | _ => cases h
theorem ix_seq {d : D} {st : Store} {xs : List D} {x : D} {i : Nat} (h : seqOf d st = some xs) (hx : xs[i]? = some x) : ixV d (.int (i : Int)) st = .ok x st := by
  cases d with
  | tup ds => cases h; simp [atI_nat, hx]
  | loc l =>
    simp only [seqOf] at h
    split at h
    · rename_i hs; cases h; simp [hs, atI_nat, hx]
    · rename_i hs; cases h; simp [hs, atI_nat, hx]
    · cases h
  | _ => cases h
theorem seqI_of {m : EM} {δ : En} {st st1 : Store} {d : D} {xs : List D} (hm : m δ st = .ok d st1) (h : seqOf d st1 = some xs) : ∃ gs, seqI m δ st = .ok ⟨xs, gs⟩ st1 ∧ gok gs st1 := by
  unfold seqI
  rw [hm]
  simp only [Res.bind_ok]
  cases d with
  | tup ds => cases h; exact ⟨[], rfl, gok_nil⟩
  | loc l =>
    simp only [seqOf] at h
    split at h
    · rename_i hs; cases h; exact ⟨_, by simp only [hs], gok_one.mpr hs⟩
    · rename_i hs; cases h; exact ⟨_, by simp only [hs], gok_one.mpr hs⟩
    · cases h
  | _ => cases h
theorem tupLc {im : IM} {g : TGM} {c : BM} {e : EM} {vs : List Nat} {δ : En} {st : Store} {it : ItD} (him : im δ st = .ok it st) (F : D → D) (hg : gok it.gs st) (hl : it.xs.length ≤ sizeLine)
    (hx : ∀ x ∈ it.xs, ∀ acc : List D, ∃ δ1, g x (wipeD δ vs) (st ++ [.lst acc]) = .ok .nx δ1 (st ++ [.lst acc]) ∧ c δ1 (st ++ [.lst acc]) = .ok true (st ++ [.lst acc]) ∧ e δ1 (st ++ [.lst acc]) = .ok (F x) (st ++ [.lst acc]))
    (hF : ∀ x ∈ it.xs, (F x).lows st.length = true) : gcM (blM tupleV (consM (lcM im g c e vs) nilM)) δ st = .ok (.tup (it.xs.map F)) st := by
  have e1 := lcM_map him F hg hl hx
  have e2 : blM tupleV (consM (lcM im g c e vs) nilM) δ st = .ok (.tup (it.xs.map F)) (st ++ [.lst (it.xs.map F)]) := by
    simp [e1]
  unfold gcM
  rw [e2]
  exact gc_val (by
    rw [lows_tup]
    exact lowsL_all fun d hd => by obtain ⟨x, hx, rfl⟩ := List.mem_map.mp hd; exact hF x hx)
theorem allLc {im : IM} {g : TGM} {c : BM} {e : EM} {vs : List Nat} {δ : En} {st : Store} {it : ItD} (him : im δ st = .ok it st) (F : D → Bool) (hg : gok it.gs st) (hl : it.xs.length ≤ sizeLine)
    (hx : ∀ x ∈ it.xs, ∀ acc : List D, ∃ δ1, g x (wipeD δ vs) (st ++ [.lst acc]) = .ok .nx δ1 (st ++ [.lst acc]) ∧ c δ1 (st ++ [.lst acc]) = .ok true (st ++ [.lst acc]) ∧ e δ1 (st ++ [.lst acc]) = .ok (.bl (F x)) (st ++ [.lst acc])) :
    gcM (blM allV (consM (lcM im g c e vs) nilM)) δ st = .ok (.bl (it.xs.all F)) st := by
  have e1 := lcM_map him (fun x => .bl (F x)) hg hl hx
  have e3 : blsOf (it.xs.map fun x => D.bl (F x)) = some (it.xs.map F) := by
    rw [← blsOf_map (it.xs.map F), List.map_map]; rfl
  have e2 : blM allV (consM (lcM im g c e vs) nilM) δ st = .ok (.bl (it.xs.all F)) (st ++ [.lst (it.xs.map fun x => .bl (F x))]) := by
    simp only [blM, consM, nilM, e1, Res.bind_ok, allV, at_len, List.getElem?_cons_zero, e3]
    simp [List.all_map]
  unfold gcM
  rw [e2]
  exact gc_val (by simp)
/-- a comprehension of items that stay, as it stands -/
theorem gcLc {im : IM} {g : TGM} {c : BM} {e : EM} {vs : List Nat} {δ : En} {st : Store} {it : ItD} (him : im δ st = .ok it st) (F : D → D) (hg : gok it.gs st) (hl : it.xs.length ≤ sizeLine)
    (hx : ∀ x ∈ it.xs, ∀ acc : List D, ∃ δ1, g x (wipeD δ vs) (st ++ [.lst acc]) = .ok .nx δ1 (st ++ [.lst acc]) ∧ c δ1 (st ++ [.lst acc]) = .ok true (st ++ [.lst acc]) ∧ e δ1 (st ++ [.lst acc]) = .ok (F x) (st ++ [.lst acc])) :
    lcM im g c e vs δ st = .ok (.loc st.length) (st ++ [.lst (it.xs.map F)]) := lcM_map him F hg hl hx
/-! ### renumbered -/
def renS (steps : List (List Nat)) (order : List Nat) : List (List Nat) := order.map fun s => (steps.getD s []).map fun g => order.idxOf g
def renM (marks : List Nat) (order : List Nat) : List Nat := order.map fun s => marks.getD s 0
abbrev kN (p : Nat × Nat) : Key × D := (.inl (p.1 : Int), eN p.2)
theorem getK_kN {l : List (Nat × Nat)} {g : Nat} : getK (l.map kN) (.inl (g : Int)) = (l.lookup g).map eN := by
  unfold getK
  induction l with
  | nil => rfl
  | cons p l ih =>
    obtain ⟨a, b⟩ := p
    rw [List.map_cons, List.find?_cons, List.lookup_cons]
    by_cases h : a = g
    · subst h; simp
    · have h1 : ¬ (Sum.inl (a : Int) : Key) = .inl (g : Int) := fun e => h (by injection e with e; omega)
      have h2 : (g == a) = false := by simp; exact Ne.symm h
      simp only [h1, decide_false, h2]
      rw [ih]
theorem putD_kN {l : List (Nat × Nat)} {g v : Nat} (h : g ∉ l.map (·.1)) : putD (l.map kN) (.inl (g : Int)) (eN v) = (l ++ [(g, v)]).map kN := by
  unfold putD
  have : ((l.map kN).any fun kv => decide (kv.1 = (.inl (g : Int) : Key))) = false := by
    rw [List.any_eq_false]
    intro x hx
    obtain ⟨y, hy, rfl⟩ := List.mem_map.mp hx
    have : y.1 ≠ g := fun e => h (List.mem_map.mpr ⟨y, hy, e⟩)
    simp; omega
  rw [this]; simp
theorem enumL_map {α : Type} (f : α → D) (l : List α) : enumL (l.map f) = l.zipIdx.map fun p => .tup [eN p.2, f p.1] := by
  apply List.ext_getElem?
  intro i
  by_cases h : i < l.length
  · rw [enumL_at (d := f l[i]) (by simp [h])]
    simp [h]
  · rw [List.getElem?_eq_none (by rw [enumL_len]; simpa using h), List.getElem?_eq_none (by simpa using h)]
theorem enumL_from {l : List Nat} {k : Nat} : True := trivial
theorem names_fold {δ : En} {st : Store} (hδ : 6 ≤ δ.length) : ∀ (l : List Nat) (k : Nat) (acc : List (Nat × Nat)), (acc.map (·.1) ++ l).Nodup → acc.length + l.length ≤ 1000 → ∀ {gs : List (Nat × MO)}, gok gs st →
    clGo gs (tupG 2 (consG (nameG 4) (consG (nameG 5) nilG))) yesB (addKV (varM 5) (varM 4) st.length) δ ((l.zipIdx k).map fun p => .tup [eN p.2, eN p.1]) (st ++ [.dK (acc.map kN)]) = .ok () (st ++ [.dK ((acc ++ l.zipIdx k).map kN)])
  | [], k, acc, _, _, gs, hg => by
    unfold clGo
    simp [gok_app hg]
  | x :: l, k, acc, nd, hl, gs, hg => by
    rw [List.zipIdx_cons, List.map_cons]
    have hx : x ∉ acc.map (·.1) := fun h => by
      have := (List.nodup_append.mp nd).2.2 x h x (List.mem_cons_self ..)
      exact this rfl
    have ih := names_fold hδ l (k + 1) (acc ++ [(x, k)]) (by simpa using nd) (by simp at hl ⊢; omega) hg
    unfold clGo
    rw [if_pos (gok_app hg)]
    have h5 : 5 < δ.length := by omega
    have h4 : 4 < δ.length := by omega
    have e3 := putD_kN (v := k) hx
    have hz : acc.length < 16777216 := by simp at hl; omega
    simp [addKV, List.getElem?_set, h5, h4, yesB, e3, sizeLine_eq, hz]
    simp at ih
    exact ih
theorem lookup_zipIdx {order : List Nat} {g : Nat} (h : g ∈ order) : ∀ k, (order.zipIdx k).lookup g = some (k + order.idxOf g) := by
  induction order with
  | nil => cases h
  | cons x l ih =>
    intro k
    rw [List.zipIdx_cons, List.lookup_cons]
    by_cases e : g = x
    · subst e; simp
    · have h1 : (g == x) = false := by simp; exact e
      rw [h1]
      simp only
      rw [ih (by rcases List.mem_cons.mp h with q | q; exact absurd q e; exact q)]
      rw [List.idxOf_cons]
      have h2 : (x == g) = false := by simp; exact Ne.symm e
      rw [h2]
      simp only [cond_false]
      congr 1
      omega
theorem names_eq {δ : En} {st : Store} {l : Nat} {order : List Nat} (h2 : δ[2]? = some (some (.loc l))) (hδ : 6 ≤ δ.length) (hO : st[l]? = some (.lst (order.map eN))) (nd : order.Nodup) (ho : order.length ≤ 1000) :
    dcM (enumI (consM (varM 2) nilM)) (tupG 2 (consG (nameG 4) (consG (nameG 5) nilG))) yesB (varM 5) (varM 4) [4, 5] δ st = .ok (.loc st.length) (st ++ [.dK (order.zipIdx.map kN)]) := by
  have e0 : enumI (consM (varM 2) nilM) δ st = .ok ⟨order.zipIdx.map fun p => .tup [eN p.2, eN p.1], [(l, .lst (order.map eN))]⟩ st := by
    simp only [enumI, consM, nilM, varM, h2, Res.bind_ok, hO, enumL_map]
  unfold dcM
  rw [e0]
  simp only [Res.bind_ok]
  have hw : (wipeD δ [4, 5]).length = δ.length := by simp [wipeD]
  have := names_fold (δ := wipeD δ [4, 5]) (st := st) (by rw [hw]; exact hδ) order 0 [] (by simpa using nd) (by simpa using ho) (gok_one.mpr hO)
  simp only [List.map_nil, List.nil_append] at this
  rw [this]
  rfl
theorem F_renumbered_eq {dS dM : D} {l : Nat} {steps : List (List Nat)} {marks order : List Nat} {st : Store} (hS : seqOf dS st = some (steps.map eL)) (hM : seqOf dM st = some (marks.map eN)) (hO : st[l]? = some (.lst (order.map eN)))
    (nd : order.Nodup) (hs : ∀ s ∈ order, s < steps.length ∧ s < marks.length) (hg : ∀ s ∈ order, ∀ g ∈ steps.getD s [], g ∈ order) (ho : order.length ≤ 1000) (ht : ∀ r ∈ steps, r.length ≤ 1000) :
    F_renumbered [dS, dM, .loc l] st = .ok (.tup [eS (renS steps order), eL (renM marks order)]) st := by
  have e1 := names_eq (δ := [some dS, some dM, some (.loc l), none, none, none, none, none]) (st := st) rfl (by simp) hO nd ho
  have hO1 : (st ++ [.dK (order.zipIdx.map kN)])[l]? = some (.lst (order.map eN)) := at_old hO
  have hz : ∀ n : Nat, n ≤ 1000 → n ≤ sizeLine := fun n h => by rw [sizeLine_eq]; omega
  have e2 : ∀ (a b : Option D), gcM (blM tupleV (consM (lcM (seqI (varM 2)) (nameG 5) yesB (gcM (blM tupleV (consM (lcM (seqI (ixM (varM 0) (varM 5))) (nameG 7) yesB (ixM (varM 3) (varM 7)) [7]) nilM))) [5]) nilM))
      [some dS, some dM, some (.loc l), some (.loc st.length), a, b, none, none] (st ++ [.dK (order.zipIdx.map kN)]) = .ok (eS (renS steps order)) (st ++ [.dK (order.zipIdx.map kN)]) := by
    intro a b
    have hi : seqI (varM 2) [some dS, some dM, some (.loc l), some (.loc st.length), a, b, none, none] (st ++ [.dK (order.zipIdx.map kN)]) = .ok ⟨order.map eN, [(l, .lst (order.map eN))]⟩ (st ++ [.dK (order.zipIdx.map kN)]) := by
      simp [seqI, hO1]
    rw [tupLc hi (fun d => match d with
      | .int i => eL ((steps.getD i.toNat []).map fun g => order.idxOf g)
      | _ => .non) (gok_one.mpr hO1) (by simpa using hz _ ho) (fun x hx acc => ?_) (fun x hx => ?_)]
    · rw [List.map_map]; simp [renS, Function.comp_def]
    · obtain ⟨s, hs1, rfl⟩ := List.mem_map.mp hx
      refine ⟨_, rfl, rfl, ?_⟩
      obtain ⟨hs2, _⟩ := hs s hs1
      have hst : steps[s]? = some steps[s] := by simp [hs2]
      have hgd : steps.getD s [] = steps[s] := by simp [hs2]
      have hix : ixV dS (.int (s : Int)) (st ++ [.dK (order.zipIdx.map kN), .lst acc]) = .ok (eL steps[s]) (st ++ [.dK (order.zipIdx.map kN), .lst acc]) := ix_seq (seqOf_app hS) (by simp [hst])
      have hi2 : seqI (ixM (varM 0) (varM 5)) [some dS, some dM, some (.loc l), some (.loc st.length), a, some (eN s), none, none] (st ++ [.dK (order.zipIdx.map kN), .lst acc]) = .ok ⟨steps[s].map eN, []⟩ (st ++ [.dK (order.zipIdx.map kN), .lst acc]) := by
        simp [seqI, -ixV, hix]
      simp only [wipeD, List.set_cons_succ, List.set_cons_zero, List.append_assoc, List.cons_append, List.nil_append, Int.toNat_natCast]
      rw [tupLc hi2 (fun d => match d with
        | .int i => eN (order.idxOf i.toNat)
        | _ => .non) gok_nil (by simpa using hz _ (ht _ (List.getElem_mem hs2))) (fun y hy acc2 => ?_) (fun y hy => ?_)]
      · rw [hgd, List.map_map]; simp [Function.comp_def]
      · obtain ⟨g, hg1, rfl⟩ := List.mem_map.mp hy
        refine ⟨_, rfl, rfl, ?_⟩
        have hm := hg s hs1 g (by rw [hgd]; exact hg1)
        have hk := getK_kN (l := order.zipIdx) (g := g)
        rw [lookup_zipIdx hm 0] at hk
        simp [wipeD, hk]
      · obtain ⟨g, hg1, rfl⟩ := List.mem_map.mp hy
        simp
    · obtain ⟨s, hs1, rfl⟩ := List.mem_map.mp hx
      exact eL_lows _
  have e3 : ∀ (a b c : Option D), gcM (blM tupleV (consM (lcM (seqI (varM 2)) (nameG 5) yesB (ixM (varM 1) (varM 5)) [5]) nilM))
      [some dS, some dM, some (.loc l), some (.loc st.length), a, b, c, none] (st ++ [.dK (order.zipIdx.map kN)]) = .ok (eL (renM marks order)) (st ++ [.dK (order.zipIdx.map kN)]) := by
    intro a b c
    have hi : seqI (varM 2) [some dS, some dM, some (.loc l), some (.loc st.length), a, b, c, none] (st ++ [.dK (order.zipIdx.map kN)]) = .ok ⟨order.map eN, [(l, .lst (order.map eN))]⟩ (st ++ [.dK (order.zipIdx.map kN)]) := by
      simp [seqI, hO1]
    rw [tupLc hi (fun d => match d with
      | .int i => eN (marks.getD i.toNat 0)
      | _ => .non) (gok_one.mpr hO1) (by simpa using hz _ ho) (fun x hx acc => ?_) (fun x hx => ?_)]
    · rw [List.map_map]; simp [renM, Function.comp_def]
    · obtain ⟨s, hs1, rfl⟩ := List.mem_map.mp hx
      refine ⟨_, rfl, rfl, ?_⟩
      obtain ⟨_, hs2⟩ := hs s hs1
      have hst : marks[s]? = some marks[s] := by simp [hs2]
      have hix : ixV dM (.int (s : Int)) (st ++ [.dK (order.zipIdx.map kN), .lst acc]) = .ok (eN marks[s]) (st ++ [.dK (order.zipIdx.map kN), .lst acc]) := ix_seq (seqOf_app hM) (by simp [hst])
      simp [wipeD, -ixV, hix, hs2]
    · obtain ⟨s, hs1, rfl⟩ := List.mem_map.mp hx
      simp
  simp only [F_renumbered, gcF, runF, m_renumbered]
  simp [e1, e2, e3, sizeLine_eq, -gcM, -tupleV]
  exact gc_val (by simp [eS_lows, eL_lows]; exact ⟨by have := eS_lows (n := st.length) (renS steps order); simpa using this, eN_lows _⟩)
end Fx
namespace Fx
open PySem PySem.Spec PyProof.Rows L2
/-! ### numbers in the order of first meeting -/
section
variable {κ : Type} [DecidableEq κ]
def meet (f : List κ) (x : κ) : List κ := if x ∈ f then f else f ++ [x]
def dedF (f : List κ) (xs : List κ) : List κ := xs.foldl meet f
def dz (f : List κ) : List (κ × D) := f.zipIdx.map fun p => (p.1, eN p.2)
theorem dz_len (f : List κ) : (dz f).length = f.length := by simp [dz]
theorem getK_dz_aux (k : κ) : ∀ (f : List κ) (j : Nat), getK ((f.zipIdx j).map fun p => (p.1, eN p.2)) k = if k ∈ f then some (eN (j + f.idxOf k)) else none
  | [], j => rfl
  | x :: f, j => by
    unfold getK
    rw [List.zipIdx_cons, List.map_cons, List.find?_cons]
    by_cases h : x = k
    · subst h; simp
    · simp only [h, decide_false]
      have := getK_dz_aux k f (j + 1)
      unfold getK at this
      rw [this, List.idxOf_cons]
      have h2 : (x == k) = false := by simpa using h
      simp only [List.mem_cons, Ne.symm h, false_or, h2, cond_false]
      by_cases hm : k ∈ f
      · simp only [hm, if_true]; congr 2; omega
      · simp [hm]
theorem getK_dz (k : κ) (f : List κ) : getK (dz f) k = if k ∈ f then some (eN (f.idxOf k)) else none := by
  have := getK_dz_aux k f 0
  simpa [dz] using this
theorem putD_dz {k : κ} {f : List κ} (h : k ∉ f) : putD (dz f) k (eN f.length) = dz (f ++ [k]) := by
  unfold putD
  have : ((dz f).any fun kv => decide (kv.1 = k)) = false := by
    rw [List.any_eq_false]
    intro x hx
    obtain ⟨y, hy, rfl⟩ := List.mem_map.mp hx
    have : y.1 ∈ f := by
      obtain ⟨a, b⟩ := y
      exact (List.mem_zipIdx' hy).2 ▸ List.getElem_mem _
    have : y.1 ≠ k := fun e => h (e ▸ this)
    simpa using this
  rw [this]
  simp [dz, List.zipIdx_append]
theorem meet_mem {f : List κ} {x y : κ} : y ∈ meet f x ↔ y ∈ f ∨ y = x := by
  unfold meet
  split
  · rename_i h
    constructor
    · exact .inl
    · rintro (q | rfl)
      · exact q
      · exact h
  · simp
theorem meet_idx {f : List κ} {x y : κ} (h : y ∈ f) : (meet f x).idxOf y = f.idxOf y := by
  unfold meet
  split
  · rfl
  · rw [List.idxOf_append, if_pos h]
theorem dedF_idx {y : κ} : ∀ (xs f : List κ), y ∈ f → (dedF f xs).idxOf y = f.idxOf y
  | [], _, _ => rfl
  | x :: xs, f, h => by
    show (dedF (meet f x) xs).idxOf y = _
    rw [dedF_idx xs _ (meet_mem.mpr (.inl h)), meet_idx h]
theorem dedF_mem {y : κ} : ∀ (xs f : List κ), y ∈ dedF f xs ↔ y ∈ f ∨ y ∈ xs
  | [], _ => by simp [dedF]
  | x :: xs, f => by
    show y ∈ dedF (meet f x) xs ↔ _
    rw [dedF_mem xs, meet_mem, List.mem_cons]
    constructor
    · rintro ((h | h) | h)
      · exact .inl h
      · exact .inr (.inl h)
      · exact .inr (.inr h)
    · rintro (h | h | h)
      · exact .inl (.inl h)
      · exact .inl (.inr h)
      · exact .inr h
theorem meet_nodup {f : List κ} {x : κ} (h : f.Nodup) : (meet f x).Nodup := by
  unfold meet
  split
  · exact h
  · rename_i hx
    exact List.nodup_append.mpr ⟨h, by simp, fun a ha b hb e => by simp at hb; subst hb; subst e; exact hx ha⟩
theorem dedF_nodup : ∀ (xs f : List κ), f.Nodup → (dedF f xs).Nodup
  | [], _, h => h
  | x :: xs, f, h => dedF_nodup xs (meet f x) (meet_nodup h)
theorem dedF_len : ∀ (xs f : List κ), (dedF f xs).length ≤ f.length + xs.length
  | [], _ => by simp [dedF]
  | x :: xs, f => by
    have := dedF_len xs (meet f x)
    have h2 : (meet f x).length ≤ f.length + 1 := by unfold meet; split <;> simp
    show (dedF (meet f x) xs).length ≤ _
    rw [List.length_cons]; omega
/-- the classes of keys, numbered by first meeting -/
def numF (xs : List κ) : List Nat := xs.map fun x => (dedF [] xs).idxOf x
/-- the fold that the comprehension makes -/
theorem num_fold : ∀ (xs f : List κ) (acc : List D), xs.foldl (fun (p : List κ × List D) x => (meet p.1 x, p.2 ++ [eN ((meet p.1 x).idxOf x)])) (f, acc) = (dedF f xs, acc ++ xs.map fun x => eN ((dedF f xs).idxOf x))
  | [], f, acc => by simp [dedF]
  | x :: xs, f, acc => by
    rw [List.foldl_cons, num_fold xs, List.map_cons]
    have h : (dedF f (x :: xs)) = dedF (meet f x) xs := rfl
    rw [h, dedF_idx xs _ (meet_mem.mpr (.inr rfl))]
    simp
end
/-- [known.setdefault(key, len(known)) for x in ..]: known at l -/
theorem lcM_num {κ : Type} [DecidableEq κ] {im : IM} {j a : Nat} {mk : EM} {δ : En} {base : Store} {it : ItD} {l : Nat} (mkD : List (κ × D) → MO) (key : D → κ)
    (hset : ∀ (st' : Store) (f : List κ) (x : D), x ∈ it.xs → st'[l]? = some (mkD (dz f)) → f.length < 1000 → ∃ y, (∀ s : Store, mk ((wipeD δ [j]).set j (some x)) s = .ok y s) ∧ setdV l y (eN f.length) st' = (match getK (dz f) (key x) with
      | some v => .ok v st'
      | none => .ok (eN f.length) (st'.set l (mkD (putD (dz f) (key x) (eN f.length))))))
    (hlen : ∀ (st' : Store) (f : List κ), st'[l]? = some (mkD (dz f)) → lenV [.loc l] st' = .ok (eN f.length) st') (hD : ∀ kvs, (mkD kvs).isD = true)
    (him : im δ base = .ok it base) (hb : base[l]? = some (mkD [])) (hg : gok it.gs base) (hgl : ∀ g ∈ it.gs, g.1 ≠ l) (hl : it.xs.length ≤ 999) (ha : (wipeD δ [j])[a]? = some (some (.loc l))) (haj : a ≠ j) :
    lcM im (nameG j) yesB (setdAM (varM a) mk (blM lenV (consM (varM a) nilM))) [j] δ base =
      .ok (.loc base.length) (base.set l (mkD (dz (dedF [] (it.xs.map key)))) ++ [.lst ((numF (it.xs.map key)).map eN)]) := by
  have hll := lt_old hb
  have e0 : base.set l (mkD (dz ([] : List κ))) = base := by
    apply List.ext_getElem?
    intro i
    by_cases h : l = i
    · subst h; rw [List.getElem?_set_self hll, hb]; rfl
    · rw [List.getElem?_set_ne h]
  have key2 := lcM_fold (σ := List κ) (im := im) (g := nameG j) (c := yesB) (e := setdAM (varM a) mk (blM lenV (consM (varM a) nilM))) (vs := [j]) (δ := δ) (st := base) (it := it) (R := fun f => base.set l (mkD (dz f))) (P := fun xs f => (∀ x ∈ xs, x ∈ it.xs) ∧ f.length + xs.length ≤ 999)
    (nxt := fun f x => (meet f (key x), eN ((meet f (key x)).idxOf (key x)))) [] (by rw [e0]; exact him) (by simp) (fun f g hg' => by
      rw [List.getElem?_set_ne (Ne.symm (hgl g hg'))]; exact hg g hg') (by rw [sizeLine_eq]; omega) ⟨fun _ h => h, by simpa using hl⟩ fun x xs f acc hp => by
      obtain ⟨h1, h2⟩ := hp
      rw [List.length_cons] at h2
      have hm : (meet f (key x)).length ≤ f.length + 1 := by unfold meet; split <;> simp
      refine ⟨⟨fun y hy => h1 y (List.mem_cons_of_mem _ hy), by show (meet f (key x)).length + xs.length ≤ 999; omega⟩, _, rfl, rfl, ?_⟩
      have hs : (base.set l (mkD (dz f)) ++ [.lst acc])[l]? = some (mkD (dz f)) := at_old (List.getElem?_set_self hll)
      obtain ⟨y, ey, es⟩ := hset _ f x (h1 x (List.mem_cons_self ..)) hs (by omega)
      have hva : varM a ((wipeD δ [j]).set j (some x)) (base.set l (mkD (dz f)) ++ [.lst acc]) = .ok (.loc l) (base.set l (mkD (dz f)) ++ [.lst acc]) := by
        unfold varM
        rw [List.getElem?_set_ne (Ne.symm haj), ha]
      unfold setdAM
      rw [hva]
      simp only [Res.bind_ok, hs, Option.map_some, hD, if_true, ey]
      simp only [blM, consM, nilM, hva, Res.bind_ok, hlen _ _ hs, es, getK_dz]
      by_cases hk : key x ∈ f
      · have em : meet f (key x) = f := by unfold meet; rw [if_pos hk]
        simp only [hk, if_true, em]
      · have em : meet f (key x) = f ++ [key x] := by unfold meet; rw [if_neg hk]
        have ei : (f ++ [key x]).idxOf (key x) = f.length := by rw [List.idxOf_append, if_neg hk]; simp
        simp only [hk, if_false, em, ei, putD_dz hk]
        congr 1
        rw [List.set_append_left _ _ (by simpa using hll), List.set_set]
  have e1 : (base.set l (mkD (dz ([] : List κ)))).length = base.length := by simp
  rw [e1] at key2
  rw [key2]
  have hf := num_fold (it.xs.map key) ([] : List κ) []
  rw [List.foldl_map] at hf
  rw [hf]
  simp [numF, List.map_map, Function.comp_def]
theorem setdV_K {l : Nat} {y : D} {k : Key} {f : List Key} {st' : Store} (hs : st'[l]? = some (.dK (dz f))) (hl : f.length < 1000) (hk : keyOf y = some k) : setdV l y (eN f.length) st' = (match getK (dz f) k with
      | some v => .ok v st'
      | none => .ok (eN f.length) (st'.set l (.dK (putD (dz f) k (eN f.length))))) := by
  unfold setdV
  simp only [hs, dz_len, hk]
  rw [if_pos (by rw [sizeLine_eq]; omega)]
  all_goals (cases getK (dz f) k <;> rfl)
theorem setdV_T {l : Nat} {y : D} {k : List Key} {f : List (List Key)} {st' : Store} (hs : st'[l]? = some (.dT (dz f))) (hl : f.length < 1000) (hk : keyTOf y = some k) : setdV l y (eN f.length) st' = (match getK (dz f) k with
      | some v => .ok v st'
      | none => .ok (eN f.length) (st'.set l (.dT (putD (dz f) k (eN f.length))))) := by
  unfold setdV
  simp only [hs, dz_len, hk]
  rw [if_pos (by rw [sizeLine_eq]; omega)]
  all_goals (cases getK (dz f) k <;> rfl)
theorem lenV_K {l : Nat} {f : List Key} {st' : Store} (hs : st'[l]? = some (.dK (dz f))) : lenV [.loc l] st' = .ok (eN f.length) st' := by simp [hs, dz_len]
theorem lenV_T {l : Nat} {f : List (List Key)} {st' : Store} (hs : st'[l]? = some (.dT (dz f))) : lenV [.loc l] st' = .ok (eN f.length) st' := by simp [hs, dz_len]
abbrev kI (n : Nat) : Key := .inl (n : Int)
theorem keyOf_eN (n : Nat) : keyOf (eN n) = some (kI n) := rfl
theorem keysOf_eN : ∀ l : List Nat, keysOf (l.map eN) = some (l.map kI)
  | [] => rfl
  | x :: l => by simp [keysOf, keysOf_eN l]
theorem keyTOf_eL (l : List Nat) : keyTOf (eL l) = some (l.map kI) := keysOf_eN l
theorem kI_inj {a b : Nat} (h : kI a = kI b) : a = b := by injection h with h; omega
theorem kIL_inj {a b : List Nat} (h : a.map kI = b.map kI) : a = b := by
  induction a generalizing b with
  | nil => cases b with
    | nil => rfl
    | cons _ _ => cases h
  | cons x a ih => cases b with
    | nil => cases h
    | cons y b =>
      rw [List.map_cons, List.map_cons] at h
      injection h with h1 h2
      rw [kI_inj h1, ih h2]
/-- numbering does not see an injective renaming -/
theorem dedF_map {κ κ' : Type} [DecidableEq κ] [DecidableEq κ'] (g : κ → κ') (hg : ∀ a b, g a = g b → a = b) : ∀ (xs f : List κ), dedF (f.map g) (xs.map g) = (dedF f xs).map g
  | [], _ => rfl
  | x :: xs, f => by
    show dedF (meet (f.map g) (g x)) (xs.map g) = (dedF (meet f x) xs).map g
    have : meet (f.map g) (g x) = (meet f x).map g := by
      unfold meet
      by_cases h : x ∈ f
      · rw [if_pos h, if_pos (List.mem_map.mpr ⟨x, h, rfl⟩)]
      · rw [if_neg h, if_neg (fun q => by obtain ⟨y, hy, e⟩ := List.mem_map.mp q; exact h (hg _ _ e ▸ hy))]
        simp
    rw [this, dedF_map g hg]
theorem idxOf_map {κ κ' : Type} [DecidableEq κ] [DecidableEq κ'] (g : κ → κ') (hg : ∀ a b, g a = g b → a = b) (x : κ) : ∀ l : List κ, (l.map g).idxOf (g x) = l.idxOf x
  | [] => rfl
  | y :: l => by
    rw [List.map_cons, List.idxOf_cons, List.idxOf_cons, idxOf_map g hg x l]
    by_cases h : y = x
    · subst h; simp
    · have h1 : (y == x) = false := by simpa using h
      have h2 : (g y == g x) = false := by simpa using fun e => h (hg _ _ e)
      rw [h1, h2]
theorem numF_map {κ κ' : Type} [DecidableEq κ] [DecidableEq κ'] (g : κ → κ') (hg : ∀ a b, g a = g b → a = b) (xs : List κ) : numF (xs.map g) = numF xs := by
  unfold numF
  rw [List.map_map]
  apply List.map_congr_left
  intro x _
  have := dedF_map g hg xs []
  simp only [List.map_nil] at this
  simp only [Function.comp_apply, this, idxOf_map g hg]
theorem seqI_old {m : EM} {δ : En} {st t : Store} {d : D} {xs : List D} (hm : m δ (st ++ t) = .ok d (st ++ t)) (h : seqOf d st = some xs) : ∃ gs, seqI m δ (st ++ t) = .ok ⟨xs, gs⟩ (st ++ t) ∧ gok gs (st ++ t) ∧ ∀ g ∈ gs, g.1 < st.length := by
  unfold seqI
  rw [hm]
  simp only [Res.bind_ok]
  cases d with
  | tup ds => cases h; exact ⟨[], rfl, gok_nil, fun _ z => nomatch z⟩
  | loc l =>
    simp only [seqOf] at h
    split at h
    · rename_i hs
      cases h
      have h1 := at_old (t := t) hs
      exact ⟨[(l, .lst _)], by simp only [h1], gok_one.mpr h1, fun g hg => by
        have : g = _ := List.mem_singleton.mp hg
        subst this; exact lt_old hs⟩
    · rename_i hs
      cases h
      have h1 := at_old (t := t) hs
      exact ⟨[(l, .rdl _)], by simp only [h1], gok_one.mpr h1, fun g hg => by
        have : g = _ := List.mem_singleton.mp hg
        subst this; exact lt_old hs⟩
    · cases h
  | _ => cases h
/-! ### numbered -/
theorem F_numbered_K {d : D} {ns : List Nat} {st : Store} (h : seqOf d st = some (ns.map eN)) (hl : ns.length ≤ 999) : F_numbered [d] st = .ok (.loc st.length) (st ++ [.lst ((numF ns).map eN)]) := by
  have hw : wantsT [d] st = false := by
    simp only [wantsT, h]
    cases ns <;> rfl
  unfold F_numbered
  rw [hw]
  simp only [Bool.false_eq_true, if_false, F_numberedK, gcF, runF, m_numberedK]
  obtain ⟨gs, e1, hg, hgl⟩ := seqI_old (m := varM 0) (δ := [some d, some (.loc st.length), none]) (st := st) (t := [.dK []]) rfl h
  have e2 := lcM_num (κ := Key) (mk := varM 2) (j := 2) (a := 1) (l := st.length) (mkD := .dK) (key := fun x => match x with
    | .int i => .inl i
    | _ => .inl 0) (δ := [some d, some (.loc st.length), none]) (base := st ++ [.dK []]) (fun st' f x hx hs hf => by
      obtain ⟨n, hn, rfl⟩ := List.mem_map.mp hx
      exact ⟨eN n, fun s => rfl, setdV_K hs hf rfl⟩) (fun st' f hs => lenV_K hs) (fun _ => rfl) e1 (by simp) hg (fun g hg' => Nat.ne_of_lt (hgl g hg')) (by simpa using hl) rfl (by decide)
  have e3 : (ns.map eN).map (fun x => match x with
    | .int i => (.inl i : Key)
    | _ => .inl 0) = ns.map kI := by rw [List.map_map]; rfl
  simp only [e3, numF_map kI (fun _ _ => kI_inj)] at e2
  simp [e2]
  have := gc_loc (st := st) (t := [.dK (dz (dedF [] (ns.map kI))), .lst ((numF ns).map eN)]) (k := 1) rfl (eN_lows (n := st.length) (numF ns))
  simpa using this
theorem F_numbered_T {d : D} {x0 : List Nat} {nss : List (List Nat)} {st : Store} (h : seqOf d st = some ((x0 :: nss).map eL)) (hl : (x0 :: nss).length ≤ 999) : F_numbered [d] st = .ok (.loc st.length) (st ++ [.lst ((numF (x0 :: nss)).map eN)]) := by
  have hw : wantsT [d] st = true := by
    simp only [wantsT, h]
    rfl
  generalize x0 :: nss = q at h hl
  unfold F_numbered
  rw [hw]
  simp only [if_true, F_numberedT, gcF, runF, m_numberedT]
  obtain ⟨gs, e1, hg, hgl⟩ := seqI_old (m := varM 0) (δ := [some d, some (.loc st.length), none]) (st := st) (t := [.dT []]) rfl h
  have e2 := lcM_num (κ := List Key) (mk := varM 2) (j := 2) (a := 1) (l := st.length) (mkD := .dT) (key := fun x => (keyTOf x).getD [])
    (δ := [some d, some (.loc st.length), none]) (base := st ++ [.dT []]) (fun st' f x hx hs hf => by
      obtain ⟨n, hn, rfl⟩ := List.mem_map.mp hx
      exact ⟨eL n, fun s => rfl, setdV_T hs hf (by rw [keyTOf_eL]; rfl)⟩) (fun st' f hs => lenV_T hs) (fun _ => rfl) e1 (by simp) hg (fun g hg' => Nat.ne_of_lt (hgl g hg')) (by simpa using hl) rfl (by decide)
  have e3 : (q.map eL).map (fun x => (keyTOf x).getD []) = q.map fun l => l.map kI := by
    rw [List.map_map]
    apply List.map_congr_left
    intro l _
    show (keyTOf (eL l)).getD [] = _
    rw [keyTOf_eL]; rfl
  simp only [e3, numF_map (fun l : List Nat => l.map kI) (fun _ _ => kIL_inj)] at e2
  simp [e2]
  have := gc_loc (st := st) (t := [.dT (dz (dedF [] (q.map fun l => l.map kI))), .lst ((numF q).map eN)]) (k := 1) rfl (eN_lows (n := st.length) (numF q))
  simpa using this
end Fx
namespace Fx
open PySem PySem.Spec PyProof.Rows L2
/-! ### classes_of -/
def cnt {κ : Type} [DecidableEq κ] (xs : List κ) : Nat := (dedF [] xs).length
theorem cnt_le {κ : Type} [DecidableEq κ] (xs : List κ) : cnt xs ≤ xs.length := by
  have := dedF_len xs []
  simpa [cnt] using this
theorem cnt_map {κ κ' : Type} [DecidableEq κ] [DecidableEq κ'] (g : κ → κ') (hg : ∀ a b, g a = g b → a = b) (xs : List κ) : cnt (xs.map g) = cnt xs := by
  have := dedF_map g hg xs []
  simp only [List.map_nil] at this
  simp [cnt, this]
theorem numF_len {κ : Type} [DecidableEq κ] (xs : List κ) : (numF xs).length = xs.length := by simp [numF]
def toldF (steps : List (List Nat)) (found : List Nat) : List (List Nat) := steps.zipIdx.map fun p => found.getD p.2 0 :: p.1.map fun g => found.getD g 0
theorem toldF_len {steps : List (List Nat)} {found : List Nat} : (toldF steps found).length = steps.length := by simp [toldF]
def clsF (steps : List (List Nat)) : Nat → List Nat → Nat → Nat → List Nat
  | 0, f, _, _ => f
  | k + 1, f, many, c => if many < c then clsF steps k (numF (toldF steps f)) c (cnt (toldF steps f)) else f
def classesF (steps : List (List Nat)) (marks : List Nat) : List Nat := clsF steps (steps.length + 1) (numF marks) 0 (cnt marks)
/-- more fuel gives the same -/
theorem clsF_fuel {steps : List (List Nat)} : ∀ {k k' : Nat} {f : List Nat} {many c : Nat}, c ≤ steps.length → steps.length - many < k → steps.length - many < k' → clsF steps k f many c = clsF steps k' f many c
  | 0, _, _, _, _, _, h, _ => absurd h (by omega)
  | _, 0, _, _, _, _, _, h => absurd h (by omega)
  | k + 1, k' + 1, f, many, c, hc, h1, h2 => by
    unfold clsF
    split
    · rename_i hlt
      have hc2 : cnt (toldF steps f) ≤ steps.length := by
        have := cnt_le (toldF steps f)
        rw [toldF_len] at this; exact this
      exact clsF_fuel hc2 (by omega) (by omega)
    · rfl
theorem lcM_told {steps : List (List Nat)} {found : List Nat} {M x4 x6 x7 x8 x9 : Option D} {lk lf : Nat} {c5 : D} {s : Store} (hv : Valid steps) (hf : found.length = steps.length) (hl : s[lf]? = some (.lst (found.map eN))) :
    lcM (enumI (consM (varM 0) nilM)) (tupG 2 (consG (nameG 7) (consG (nameG 8) nilG))) yesB (addM (tupM (consM (ixM (varM 3) (varM 7)) nilM)) (gcM (blM tupleV (consM (lcM (seqI (varM 8)) (nameG 9) yesB (ixM (varM 3) (varM 9)) [9]) nilM)))) [7, 8]
      [some (eS steps), M, some (.loc lk), some (.loc lf), x4, some c5, x6, x7, x8, x9] s = .ok (.loc s.length) (s ++ [.lst ((toldF steps found).map eL)]) := by
  have hi : enumI (consM (varM 0) nilM) [some (eS steps), M, some (.loc lk), some (.loc lf), x4, some c5, x6, x7, x8, x9] s = .ok ⟨enumL (steps.map eL), []⟩ s := by
    simp [enumI]
  have hz : ∀ n : Nat, n ≤ 1000 → n ≤ sizeLine := fun n h => by rw [sizeLine_eq]; omega
  rw [lcM_map hi (fun d => match d with
    | .tup [.int i, .tup ds] => .tup (eN (found.getD i.toNat 0) :: ds.map fun d => match d with
      | .int g => eN (found.getD g.toNat 0)
      | _ => .non)
    | _ => .non) gok_nil (by rw [enumL_len]; simpa using hz _ hv.few) fun x hx acc => ?_]
  · rw [enumL_map, List.map_map, toldF, List.map_map]
    simp [Function.comp_def]
  · rw [enumL_map] at hx
    obtain ⟨⟨row, i⟩, hp, rfl⟩ := List.mem_map.mp hx
    have hp2 := List.mem_zipIdx' hp
    obtain ⟨hi2, hrow⟩ := hp2
    refine ⟨_, rfl, rfl, ?_⟩
    have hls : (s ++ [.lst acc])[lf]? = some (.lst (found.map eN)) := at_old hl
    have hfi : found[i]? = some found[i] := by simp [hf, hi2]
    have hrm : row ∈ steps := hrow ▸ List.getElem_mem hi2
    have hi3 : ∀ y9, seqI (varM 8) [some (eS steps), M, some (.loc lk), some (.loc lf), x4, some c5, x6, some (eN i), some (eL row), y9] (s ++ [.lst acc]) = .ok ⟨row.map eN, []⟩ (s ++ [.lst acc]) := by
      intro y9; simp [seqI]
    have e3 := tupLc (g := nameG 9) (c := yesB) (e := ixM (varM 3) (varM 9)) (vs := [9]) (hi3 x9) (fun d => match d with
      | .int g => eN (found.getD g.toNat 0)
      | _ => .non) gok_nil (by simpa using hz _ (hv.thin _ hrm)) (fun y hy acc2 => by
        obtain ⟨g, hg1, rfl⟩ := List.mem_map.mp hy
        refine ⟨_, rfl, rfl, ?_⟩
        have hg := hv.lt _ hrm g hg1
        have hls2 : (s ++ [.lst acc, .lst acc2])[lf]? = some (.lst (found.map eN)) := at_old hl
        have hfg : found[g]? = some found[g] := by simp [hf, hg]
        simp [wipeD, hls2, atI_nat, hfg]) (fun y hy => by
        obtain ⟨g, hg1, rfl⟩ := List.mem_map.mp hy
        simp)
    simp [wipeD, -gcM, -tupleV, hls, atI_nat, hfi, sizeLine_eq]
    simp [wipeD, -gcM, -tupleV] at e3
    rw [e3]
    have := hv.thin _ hrm
    simp
    omega
theorem repr_inj : ∀ a : Fin 10, ∀ b : Fin 10, ((toString ((a.val : Nat) : Int)) : Str) = (toString ((b.val : Nat) : Int)) → a = b := by decide +kernel
theorem log_small {a : Nat} (h : a < 10) : Nat.log2 a < 1920 := by
  have : ∀ a : Fin 10, Nat.log2 a.val < 1920 := by decide +kernel
  exact this ⟨a, h⟩
def kS (n : Nat) : Key := if n < 10 then .inr (toString (n : Int)) else .inl (n : Int)
theorem kS_small {n : Nat} (h : n < 10) : kS n = .inr (toString (n : Int)) := by unfold kS; rw [if_pos h]
theorem kS_inj {a b : Nat} (h : kS a = kS b) : a = b := by
  unfold kS at h
  split at h
  · rename_i ha
    split at h
    · rename_i hb
      injection h with h
      have := repr_inj ⟨a, ha⟩ ⟨b, hb⟩ h
      injection this
    · injection h
  · split at h
    · injection h
    · injection h with h; omega
theorem F_classes_eq {steps : List (List Nat)} {marks : List Nat} {st : Store} (hv : Valid steps) (hm : marks.length = steps.length) (hmk : ∀ m ∈ marks, m < 10) (hn : steps.length ≤ 900) :
    F_classes_of [eS steps, eL marks] st = .ok (.loc st.length) (st ++ [.lst ((classesF steps marks).map eN)]) := by
  have first : lcM (seqI (varM 1)) (nameG 4) yesB (setdAM (varM 2) (blM reprIV (consM (varM 4) nilM)) (blM lenV (consM (varM 2) nilM))) [4] [some (eS steps), some (eL marks), some (.loc st.length), none, none, none, none, none, none, none] (st ++ [.dK []]) =
      .ok (.loc (st.length + 1)) (st ++ [.dK (dz (dedF [] (marks.map kS))), .lst ((numF marks).map eN)]) := by
    have hi : seqI (varM 1) [some (eS steps), some (eL marks), some (.loc st.length), none, none, none, none, none, none, none] (st ++ [.dK []]) = .ok ⟨marks.map eN, []⟩ (st ++ [.dK []]) := by
      simp [seqI]
    have e2 := lcM_num (κ := Key) (mk := blM reprIV (consM (varM 4) nilM)) (j := 4) (a := 2) (l := st.length) (mkD := .dK) (key := fun x => match x with
      | .int i => .inr (toString i)
      | _ => .inl 0) (δ := [some (eS steps), some (eL marks), some (.loc st.length), none, none, none, none, none, none, none]) (base := st ++ [.dK []]) (fun st' f x hx hs hf => by
        obtain ⟨n, hn, rfl⟩ := List.mem_map.mp hx
        have h1 : ((n : Int).natAbs).log2 < 1920 := by simpa using log_small (hmk n hn)
        exact ⟨.str (toString (n : Int)), fun s => by simp [wipeD, reprIV, log_small (hmk n hn)], setdV_K hs hf rfl⟩) (fun st' f hs => lenV_K hs) (fun _ => rfl) hi (by simp) gok_nil (fun _ z => nomatch z) (by simp [hm]; omega) rfl (by decide)
    have e3 : (marks.map eN).map (fun x => match x with
      | .int i => (.inr (toString i) : Key)
      | _ => .inl 0) = marks.map kS := by
      rw [List.map_map]
      apply List.map_congr_left
      intro m hm'
      exact (kS_small (hmk m hm')).symm
    simp only [e3, numF_map kS (fun _ _ => kS_inj)] at e2
    rw [e2]
    simp
  have loop : ∀ (Q : SRes → Prop), (∀ x4 many x6 x7 x8 x9 lk k junk, junk[k]? = some (.lst ((classesF steps marks).map eN)) → Q (.ok .nx [some (eS steps), some (eL marks), some (.loc lk), some (.loc (st.length + k)), x4, some (.int many), x6, x7, x8, x9] (st ++ junk))) →
      Q (whileS (asB (ltM (varM 5) (blM lenV (consM (varM 2) nilM)))) (seqS (asgS (tupM (consM (blM lenV (consM (varM 2) nilM)) (consM newTM nilM))) (tupG 2 (consG (nameG 5) (consG (nameG 2) nilG))))
        (seqS (setS 6 (lcM (enumI (consM (varM 0) nilM)) (tupG 2 (consG (nameG 7) (consG (nameG 8) nilG))) yesB (addM (tupM (consM (ixM (varM 3) (varM 7)) nilM)) (gcM (blM tupleV (consM (lcM (seqI (varM 8)) (nameG 9) yesB (ixM (varM 3) (varM 9)) [9]) nilM)))) [7, 8]))
        (setS 3 (lcM (seqI (varM 6)) (nameG 8) yesB (setdAM (varM 2) (varM 8) (blM lenV (consM (varM 2) nilM))) [8]))))
        [some (eS steps), some (eL marks), some (.loc st.length), some (.loc (st.length + 1)), none, some (.int 0), none, none, none, none] (st ++ [.dK (dz (dedF [] (marks.map kS))), .lst ((numF marks).map eN)])) := by
    intro Q hQ
    refine whileS_rule (Q := Q) (fun m δ s => ∃ (junk : Store) (lk k : Nat) (found : List Nat) (many c : Nat) (x4 x6 x7 x8 x9 : Option D), m = steps.length - many ∧ s = st ++ junk ∧ (∀ t, lenV [.loc lk] (s ++ t) = .ok (eN c) (s ++ t)) ∧ junk[k]? = some (.lst (found.map eN)) ∧
      δ = [some (eS steps), some (eL marks), some (.loc lk), some (.loc (st.length + k)), x4, some (eN many), x6, x7, x8, x9] ∧ found.length = steps.length ∧ c ≤ steps.length ∧ clsF steps (m + 1) found many c = classesF steps marks) ?_ steps.length _ _ ?_
    · rintro m δ s ⟨junk, lk, k, found, many, c, x4, x6, x7, x8, x9, rfl, rfl, hlen, hfd, rfl, hfl, hc, hcl⟩
      have hlen0 : lenV [.loc lk] (st ++ junk) = .ok (eN c) (st ++ junk) := by simpa using hlen []
      by_cases hlt : many < c
      · right
        refine ⟨st ++ junk, by simp [-lenV, hlen0, hlt], ?_⟩
        have hln : (st ++ junk).length = st.length + junk.length := by simp
        have hkl := lt_old hfd
        have e1 := lcM_told (M := some (eL marks)) (x4 := x4) (x6 := x6) (x7 := x7) (x8 := x8) (x9 := x9) (lk := st.length + junk.length) (lf := st.length + k) (c5 := eN c) (s := st ++ (junk ++ [.dT []])) hv hfl (by
          rw [at_len_add]; exact at_old hfd)
        have e2 := lcM_num (κ := List Key) (mk := varM 8) (j := 8) (a := 2) (l := st.length + junk.length) (mkD := .dT) (key := fun x => (keyTOf x).getD [])
          (im := seqI (varM 6)) (δ := [some (eS steps), some (eL marks), some (.loc (st.length + junk.length)), some (.loc (st.length + k)), x4, some (eN c), some (.loc (st.length + (junk.length + 1))), x7, x8, x9])
          (base := st ++ (junk ++ [.dT [], .lst ((toldF steps found).map eL)])) (it := ⟨(toldF steps found).map eL, [(st.length + (junk.length + 1), .lst ((toldF steps found).map eL))]⟩) (fun st' f x hx hs hf => by
            obtain ⟨n, hn, rfl⟩ := List.mem_map.mp hx
            exact ⟨eL n, fun s => rfl, setdV_T hs hf (by rw [keyTOf_eL]; rfl)⟩) (fun st' f hs => lenV_T hs) (fun _ => rfl) (by
              simp [seqI])
            (by simp) (gok_one.mpr (by simp)) (fun g hg => by
              have : g = _ := List.mem_singleton.mp hg
              subst this; simp) (by simp [toldF_len]; omega) rfl (by decide)
        have e3 : ((toldF steps found).map eL).map (fun x => (keyTOf x).getD []) = (toldF steps found).map fun l => l.map kI := by
          rw [List.map_map]
          apply List.map_congr_left
          intro l _
          show (keyTOf (eL l)).getD [] = _
          rw [keyTOf_eL]; rfl
        simp only [e3, numF_map (fun l : List Nat => l.map kI) (fun _ _ => kIL_inj)] at e2
        simp at e1 e2
        have hk2 : (st ++ junk)[st.length + k]? = some (.lst (found.map eN)) := by rw [at_len_add]; exact hfd
        have hstep : (seqS (asgS (tupM (consM (blM lenV (consM (varM 2) nilM)) (consM newTM nilM))) (tupG 2 (consG (nameG 5) (consG (nameG 2) nilG))))
          (seqS (setS 6 (lcM (enumI (consM (varM 0) nilM)) (tupG 2 (consG (nameG 7) (consG (nameG 8) nilG))) yesB (addM (tupM (consM (ixM (varM 3) (varM 7)) nilM)) (gcM (blM tupleV (consM (lcM (seqI (varM 8)) (nameG 9) yesB (ixM (varM 3) (varM 9)) [9]) nilM)))) [7, 8]))
          (setS 3 (lcM (seqI (varM 6)) (nameG 8) yesB (setdAM (varM 2) (varM 8) (blM lenV (consM (varM 2) nilM))) [8]))))
          [some (eS steps), some (eL marks), some (.loc lk), some (.loc (st.length + k)), x4, some (eN many), x6, x7, x8, x9] (st ++ junk) =
          .ok .nx [some (eS steps), some (eL marks), some (.loc (st.length + junk.length)), some (.loc (st.length + (junk.length + 2))), x4, some (eN c), some (.loc (st.length + (junk.length + 1))), x7, x8, x9]
            (st ++ (junk ++ [.dT (dz (dedF [] ((toldF steps found).map fun l => l.map kI))), .lst ((toldF steps found).map eL), .lst ((numF (toldF steps found)).map eN)])) := by
          simp [-lenV, hlen0, e1, e2, sizeLine_eq]
        rw [hstep]
        refine ⟨steps.length - c, by omega, junk ++ [.dT (dz (dedF [] ((toldF steps found).map fun l => l.map kI))), .lst ((toldF steps found).map eL), .lst ((numF (toldF steps found)).map eN)], st.length + junk.length, junk.length + 2, numF (toldF steps found), c, cnt (toldF steps found), x4, some (.loc (st.length + (junk.length + 1))), x7, x8, x9, rfl, rfl, fun t => ?_, by simp, rfl, by rw [numF_len, toldF_len], by have := cnt_le (toldF steps found); rw [toldF_len] at this; exact this, ?_⟩
        · have h1 := cnt_map (fun l : List Nat => l.map kI) (fun _ _ => kIL_inj) (toldF steps found)
          unfold cnt at h1
          simp [dz_len, h1, cnt]
        · rw [← hcl]
          conv => rhs; unfold clsF
          rw [if_pos hlt]
          exact clsF_fuel (by have := cnt_le (toldF steps found); rw [toldF_len] at this; exact this) (by omega) (by omega)
      · left
        refine ⟨st ++ junk, by simp [-lenV, hlen0, hlt], ?_⟩
        have : found = classesF steps marks := by rw [← hcl]; unfold clsF; rw [if_neg hlt]
        subst this
        exact hQ _ _ _ _ _ _ _ _ _ hfd
    · exact ⟨_, st.length, 1, numF marks, 0, cnt marks, none, none, none, none, none, by omega, rfl, fun t => by
        have h1 := cnt_map kS (fun _ _ => kS_inj) marks
        unfold cnt at h1
        simp [dz_len, h1, cnt], rfl, rfl, by rw [numF_len, hm], by have := cnt_le marks; omega, rfl⟩
  simp only [F_classes_of, gcF, runF, m_classes_of]
  simp [first]
  refine loop (fun r => gc st (match SRes.bind r (retS (varM 3)) with
    | .ok (.rt d) _ st => .ok d st
    | .ok .nx _ st => .ok .non st
    | .err C fs _ st => .err C fs st
    | _ => .stuck) = .ok (.loc st.length) (st ++ [.lst ((classesF steps marks).map eN)])) ?_
  intro x4 many x6 x7 x8 x9 lk k junk hj
  simp
  exact gc_loc hj (eN_lows _)
end Fx
namespace Fx
/-! ### plain facts: numbering, reaching -/
section
variable {κ κ' : Type} [DecidableEq κ] [DecidableEq κ']
theorem dedF_map_on (g : κ → κ') : ∀ (xs f : List κ), (∀ a ∈ f ++ xs, ∀ b ∈ f ++ xs, g a = g b → a = b) → dedF (f.map g) (xs.map g) = (dedF f xs).map g
  | [], _, _ => rfl
  | x :: xs, f, h => by
    show dedF (meet (f.map g) (g x)) (xs.map g) = (dedF (meet f x) xs).map g
    have e : meet (f.map g) (g x) = (meet f x).map g := by
      unfold meet
      by_cases hx : x ∈ f
      · rw [if_pos hx, if_pos (List.mem_map.mpr ⟨x, hx, rfl⟩)]
      · rw [if_neg hx, if_neg (fun q => by
          obtain ⟨y, hy, e⟩ := List.mem_map.mp q
          exact hx (h y (List.mem_append_left _ hy) x (by simp) e ▸ hy))]
        simp
    rw [e]
    refine dedF_map_on g xs (meet f x) fun a ha b hb => h a ?_ b ?_
    · rcases List.mem_append.mp ha with q | q
      · rcases meet_mem.mp q with q | rfl
        · exact List.mem_append_left _ q
        · simp
      · exact List.mem_append_right _ (List.mem_cons_of_mem _ q)
    · rcases List.mem_append.mp hb with q | q
      · rcases meet_mem.mp q with q | rfl
        · exact List.mem_append_left _ q
        · simp
      · exact List.mem_append_right _ (List.mem_cons_of_mem _ q)
theorem map_idxOf_nodup {l : List κ} (h : l.Nodup) : l.map (fun x => l.idxOf x) = List.range l.length := by
  apply List.ext_getElem
  · simp
  · intro i h1 h2
    simp only [List.getElem_map, List.getElem_range]
    exact h.idxOf_getElem i _
theorem dedF_self (xs : List κ) : ∀ x ∈ xs, x ∈ dedF [] xs := fun x hx => (dedF_mem xs []).mpr (.inr hx)
theorem idxOf_inj {l : List κ} {a b : κ} (ha : a ∈ l) (hb : b ∈ l) (h : l.idxOf a = l.idxOf b) : a = b := by
  have h1 : l[l.idxOf a]? = some a := by simp [List.getElem?_eq_getElem (List.idxOf_lt_length_of_mem ha)]
  have h2 : l[l.idxOf b]? = some b := by simp [List.getElem?_eq_getElem (List.idxOf_lt_length_of_mem hb)]
  rw [h, h2] at h1
  exact (Option.some.inj h1).symm
theorem dedF_numF (xs : List κ) : dedF [] (numF xs) = List.range (cnt xs) := by
  have := dedF_map_on (fun x => (dedF [] xs).idxOf x) xs [] (fun a ha b hb e => idxOf_inj (dedF_self xs a (by simpa using ha)) (dedF_self xs b (by simpa using hb)) e)
  simp only [List.map_nil] at this
  unfold numF cnt
  rw [this, map_idxOf_nodup (dedF_nodup xs [] (by simp))]
theorem numF_lt (xs : List κ) : ∀ c ∈ numF xs, c < cnt xs := fun c hc => by
  have := dedF_self (numF xs) c hc
  rw [dedF_numF] at this
  exact List.mem_range.mp this
theorem cnt_numF (xs : List κ) : cnt (numF xs) = cnt xs := by
  unfold cnt
  rw [dedF_numF]
  simp [cnt]
theorem cnt_pos {xs : List κ} (h : 0 < xs.length) : 0 < cnt xs := by
  cases xs with
  | nil => simp at h
  | cons x xs => exact List.length_pos_of_mem (dedF_self (x :: xs) x (List.mem_cons_self ..))
end
/-! the classes are numbers of something -/
theorem clsF_num {steps : List (List Nat)} : ∀ (k : Nat) (f : List Nat) (many c : Nat), (∃ (xs : List (List Nat)), f = numF xs) ∨ (∃ xs : List Nat, f = numF xs) → (∃ (xs : List (List Nat)), clsF steps k f many c = numF xs) ∨ (∃ xs : List Nat, clsF steps k f many c = numF xs)
  | 0, _, _, _, h => h
  | k + 1, f, many, c, h => by
    unfold clsF
    split
    · exact clsF_num k _ _ _ (.inl ⟨_, rfl⟩)
    · exact h
theorem classesF_num (steps : List (List Nat)) (marks : List Nat) : dedF [] (classesF steps marks) = List.range (cnt (classesF steps marks)) := by
  rcases clsF_num (steps := steps) (steps.length + 1) (numF marks) 0 (cnt marks) (.inr ⟨marks, rfl⟩) with ⟨xs, e⟩ | ⟨xs, e⟩
  · unfold classesF; rw [e, dedF_numF, cnt_numF]
  · unfold classesF; rw [e, dedF_numF, cnt_numF]
theorem clsF_len {steps : List (List Nat)} : ∀ (k : Nat) (f : List Nat) (many c : Nat), f.length = steps.length → (clsF steps k f many c).length = steps.length
  | 0, _, _, _, h => h
  | k + 1, f, many, c, h => by
    unfold clsF
    split
    · exact clsF_len k _ _ _ (by rw [numF_len, toldF_len])
    · exact h
theorem classesF_len {steps : List (List Nat)} {marks : List Nat} (h : marks.length = steps.length) : (classesF steps marks).length = steps.length := clsF_len _ _ _ _ (by rw [numF_len, h])
/-! reaching -/
theorem bfs_inv {steps : List (List Nat)} (hv : Valid steps) : ∀ (k a : Nat) (f : List Nat), f.Nodup → (∀ x ∈ f, x < steps.length) → a ≤ f.length → steps.length - a < k →
    (∀ i, i < a → ∀ s, f[i]? = some s → ∀ g ∈ steps.getD s [], g ∈ f) →
    (bfs steps k f a).Nodup ∧ (∀ x ∈ bfs steps k f a, x < steps.length) ∧ (∀ s ∈ bfs steps k f a, ∀ g ∈ steps.getD s [], g ∈ bfs steps k f a) ∧ (∃ t, bfs steps k f a = f ++ t)
  | 0, _, _, _, _, _, h, _ => absurd h (by omega)
  | k + 1, a, f, nd, hl, ha, hk, hc => by
    unfold bfs
    by_cases h : a < f.length
    · rw [dif_pos h]
      have hx := hl f[a] (List.getElem_mem h)
      have hgd : steps.getD f[a] [] = steps[f[a]] := by simp [hx]
      have hr := List.getElem_mem hx
      have nd2 := addNew_nodup (gs := steps.getD f[a] []) nd
      obtain ⟨t0, et0⟩ : ∃ t, addNew f (steps.getD f[a] []) = f ++ t := by
        have : ∀ (gs f : List Nat), ∃ t, addNew f gs = f ++ t := by
          intro gs
          induction gs with
          | nil => intro f; exact ⟨[], by simp [addNew]⟩
          | cons g gs ih =>
            intro f
            rw [addNew_cons]
            obtain ⟨t, e⟩ := ih (if g ∈ f then f else f ++ [g])
            rw [e]
            split
            · exact ⟨t, rfl⟩
            · exact ⟨g :: t, by simp⟩
        exact this _ _
      have hl2 : ∀ x ∈ addNew f (steps.getD f[a] []), x < steps.length := fun x q => by
        rcases addNew_mem.mp q with q | q
        · exact hl x q
        · rw [hgd] at q; exact hv.lt _ hr x q
      have hle : f.length ≤ (addNew f (steps.getD f[a] [])).length := addNew_len
      obtain ⟨r1, r2, r3, t, r4⟩ := bfs_inv hv k (a + 1) (addNew f (steps.getD f[a] [])) nd2 hl2 (by omega) (by have := nodup_lt_len nd hl; omega) (fun i hi s hs g hg => by
        have hi2 : i < f.length := by omega
        rw [et0, List.getElem?_append_left hi2] at hs
        by_cases hia : i = a
        · subst hia
          have : s = f[i] := by simpa [h] using hs.symm
          subst this
          exact addNew_mem.mpr (.inr hg)
        · exact addNew_mem.mpr (.inl (hc i (by omega) s hs g hg)))
      exact ⟨r1, r2, r3, t0 ++ t, by rw [r4, et0, List.append_assoc]⟩
    · rw [dif_neg h]
      refine ⟨nd, hl, fun s hs g hg => ?_, [], by simp⟩
      obtain ⟨i, hi⟩ := List.mem_iff_getElem?.mp hs
      have := (List.getElem?_eq_some_iff.mp hi).1
      exact hc i (by omega) s hi g hg
theorem reachedF_ok {steps : List (List Nat)} (hv : Valid steps) : (reachedF steps).Nodup ∧ (∀ x ∈ reachedF steps, x < steps.length) ∧ (∀ s ∈ reachedF steps, ∀ g ∈ steps.getD s [], g ∈ reachedF steps) ∧ ∃ t, reachedF steps = 0 :: t := by
  obtain ⟨h1, h2, h3, t, h4⟩ := bfs_inv hv (steps.length + 1) 0 [0] (by simp) (by intro x hx; simp at hx; subst hx; exact hv.pos) (by simp) (by omega) (fun i hi => absurd hi (by omega))
  exact ⟨h1, h2, h3, t, h4⟩
theorem renS_valid {steps : List (List Nat)} {order : List Nat} (hv : Valid steps) (h0 : 0 < order.length) (nd : order.Nodup) (hl : ∀ x ∈ order, x < steps.length) (hc : ∀ s ∈ order, ∀ g ∈ steps.getD s [], g ∈ order) : Valid (renS steps order) where
  pos := by simp [renS]; exact h0
  lt := fun r hr g hg => by
    obtain ⟨s, hs, rfl⟩ := List.mem_map.mp hr
    obtain ⟨x, hx, rfl⟩ := List.mem_map.mp hg
    simpa [renS] using List.idxOf_lt_length_of_mem (hc s hs x hx)
  few := by have := nodup_lt_len nd hl; have := hv.few; simp [renS]; omega
  thin := fun r hr => by
    obtain ⟨s, hs, rfl⟩ := List.mem_map.mp hr
    have := hl s hs
    have hgd : steps.getD s [] = steps[s] := by simp [this]
    rw [List.length_map, hgd]
    exact hv.thin _ (List.getElem_mem this)
/-! the least form -/
def foldS (steps : List (List Nat)) (cls : List Nat) : List (List Nat) := (List.range (cnt cls)).map fun c => (steps.getD (cls.idxOf c) []).map fun g => cls.getD g 0
def foldM (marks cls : List Nat) : List Nat := (List.range (cnt cls)).map fun c => marks.getD (cls.idxOf c) 0
def leastF (steps : List (List Nat)) (marks : List Nat) : List (List Nat) × List Nat :=
  let order := reachedF steps
  let s1 := renS steps order
  let m1 := renM marks order
  let cls := classesF s1 m1
  let s2 := foldS s1 cls
  let m2 := foldM m1 cls
  (renS s2 (reachedF s2), renM m2 (reachedF s2))
/-- the first place of each class -/
def fstF (f : List (Nat × Nat)) : List Nat → Nat → List (Nat × Nat)
  | [], _ => f
  | c :: cs, k => fstF (if c ∈ f.map (·.1) then f else f ++ [(c, k)]) cs (k + 1)
theorem fstF_eq : ∀ (cs p : List Nat), fstF ((dedF [] p).map fun c => (c, (p ++ cs).idxOf c)) cs p.length = (dedF [] (p ++ cs)).map fun c => (c, (p ++ cs).idxOf c)
  | [], p => by simp [fstF]
  | c :: cs, p => by
    unfold fstF
    have hd : dedF [] (p ++ [c]) = meet (dedF [] p) c := by simp [dedF, List.foldl_append]
    have ih := fstF_eq cs (p ++ [c])
    simp only [List.append_assoc, List.singleton_append, List.length_append, List.length_cons, List.length_nil, Nat.zero_add] at ih
    rw [hd] at ih
    have hm : (((dedF [] p).map fun x => (x, (p ++ c :: cs).idxOf x)).map (·.1)) = dedF [] p := by simp [List.map_map, Function.comp_def]
    rw [hm]
    by_cases h : c ∈ dedF [] p
    · rw [if_pos h]
      unfold meet at ih
      rw [if_pos h] at ih
      exact ih
    · rw [if_neg h]
      unfold meet at ih
      rw [if_neg h] at ih
      have hcp : c ∉ p := fun q => h (dedF_self p c q)
      have e : (p ++ c :: cs).idxOf c = p.length := by rw [List.idxOf_append, if_neg hcp]; simp
      rw [List.map_append, List.map_cons, List.map_nil, e] at ih
      exact ih
theorem fstF_classes {cls : List Nat} (h : dedF [] cls = List.range (cnt cls)) : fstF [] cls 0 = (List.range (cnt cls)).map fun c => (c, cls.idxOf c) := by
  have := fstF_eq cls []
  simp only [List.nil_append, List.length_nil] at this
  rw [h] at this
  simpa [dedF] using this
end Fx
namespace Fx
open PySem PySem.Spec PyProof.Rows L2
/-! ### least -/
theorem first_loop {gs : List (Nat × MO)} {l : Nat} {d0 d1 d2 : Option D} {rest : List (Option D)} (base : Store) (hb : l < base.length) (hgl : ∀ g ∈ gs, g.1 ≠ l) (hg : gok gs base) : ∀ (cs : List Nat) (k : Nat) (f : List (Nat × Nat)) (x4 x5 : Option D), f.length + cs.length ≤ 1000 → (base[l]? = some (.dK (f.map kN))) →
    ∃ y4 y5, forGo gs (tupG 2 (consG (nameG 4) (consG (nameG 5) nilG))) (exprS (setdAM (varM 3) (varM 5) (varM 4))) ((cs.zipIdx k).map fun p => .tup [eN p.2, eN p.1]) (d0 :: d1 :: d2 :: some (.loc l) :: x4 :: x5 :: rest) base =
      .ok .nx (d0 :: d1 :: d2 :: some (.loc l) :: y4 :: y5 :: rest) (base.set l (.dK ((fstF f cs k).map kN)))
  | [], k, f, x4, x5, _, h => ⟨x4, x5, by
      have : base.set l (.dK (f.map kN)) = base := by
        apply List.ext_getElem?
        intro i
        by_cases e : l = i
        · subst e; rw [List.getElem?_set_self hb, h]
        · rw [List.getElem?_set_ne e]
      show forGo gs _ _ [] _ base = .ok .nx _ (base.set l (.dK (f.map kN)))
      rw [forGo_nil hg, this]⟩
  | c :: cs, k, f, x4, x5, hz, h => by
    rw [List.length_cons] at hz
    have hz2 : f.length < 16777216 := by omega
    have hgk := getK_kN (l := f) (g := c)
    have step : ∀ base', base' = base.set l (.dK ((if c ∈ f.map (·.1) then f else f ++ [(c, k)]).map kN)) → exprS (setdAM (varM 3) (varM 5) (varM 4)) (d0 :: d1 :: d2 :: some (.loc l) :: some (eN k) :: some (eN c) :: rest) base = .ok .nx (d0 :: d1 :: d2 :: some (.loc l) :: some (eN k) :: some (eN c) :: rest) base' := by
      intro base' e
      by_cases hc : c ∈ f.map (·.1)
      · rw [if_pos hc] at e
        have e2 : base' = base := by
          rw [e]
          apply List.ext_getElem?
          intro i
          by_cases e : l = i
          · subst e; rw [List.getElem?_set_self hb, h]
          · rw [List.getElem?_set_ne e]
        rw [e2]
        have : ∃ v, f.lookup c = some v := by
          obtain ⟨p, hp, rfl⟩ := List.mem_map.mp hc
          cases hq : f.lookup p.1 with
          | some v => exact ⟨v, rfl⟩
          | none =>
            rw [List.lookup_eq_none_iff] at hq
            have := hq p hp
            simp at this
        obtain ⟨v, hv⟩ := this
        rw [hv] at hgk
        simp [setdAM, h, MO.isD, setdV, sizeLine_eq, hz2, hgk]
      · rw [if_neg hc] at e
        rw [e]
        have hn : f.lookup c = none := by
          rw [List.lookup_eq_none_iff]
          intro p hp
          have : p.1 ≠ c := fun q => hc (List.mem_map.mpr ⟨p, hp, q⟩)
          simp; exact Ne.symm this
        rw [hn] at hgk
        have hpd := putD_kN (v := k) hc
        simp [setdAM, h, MO.isD, setdV, sizeLine_eq, hz2, hgk, hpd]
    have hg2 : gok gs (base.set l (.dK ((if c ∈ f.map (·.1) then f else f ++ [(c, k)]).map kN))) := fun g hg' => by
      rw [List.getElem?_set_ne (Ne.symm (hgl g hg'))]; exact hg g hg'
    have hlen2 : (if c ∈ f.map (·.1) then f else f ++ [(c, k)]).length + cs.length ≤ 1000 := by
      split
      · omega
      · rw [List.length_append, List.length_cons, List.length_nil]; omega
    obtain ⟨y4, y5, ih⟩ := first_loop (gs := gs) (l := l) (d0 := d0) (d1 := d1) (d2 := d2) (rest := rest) (base.set l (.dK ((if c ∈ f.map (·.1) then f else f ++ [(c, k)]).map kN))) (by simpa using hb) hgl hg2 cs (k + 1) (if c ∈ f.map (·.1) then f else f ++ [(c, k)]) (some (eN k)) (some (eN c)) hlen2 (List.getElem?_set_self hb)
    refine ⟨y4, y5, ?_⟩
    rw [List.zipIdx_cons, List.map_cons]
    rw [forGo_cons hg (δ1 := d0 :: d1 :: d2 :: some (.loc l) :: some (eN k) :: some (eN c) :: rest) (st1 := base) (by simp) (step _ rfl), ih, List.set_set]
    rfl
theorem range1_eq {δ : En} {st : Store} {n : Nat} {am : AM} (ham : am δ st = .ok [.int (n : Int)] st) (h : n ≤ 1000) : range1I am δ st = .ok ⟨(List.range n).map eN, []⟩ st := by
  have h1 : -(2 ^ 62 : Int) ≤ (n : Int) := Int.le_trans (by decide +kernel) (Int.natCast_nonneg n)
  have h2 : (n : Int) < 2 ^ 62 := Int.lt_of_le_of_lt (Int.ofNat_le.mpr h) (by decide +kernel)
  have e : rangeL 0 n = (List.range n).map eN := by simp [rangeL]
  unfold range1I
  rw [ham, Res.bind_ok]
  simp only
  rw [if_pos ⟨h1, h2⟩, Int.toNat_natCast, e]
/-- {state: classes[state] for state in range(n)} -/
theorem names_id {δ : En} {st : Store} {lc n : Nat} {cls : List Nat} (hn : n = cls.length) (hnl : n ≤ 1000) {am : AM} (ham : am δ st = .ok [.int (n : Int)] st) (hδ : 5 ≤ δ.length) (h2 : (wipeD δ [4])[2]? = some (some (.loc lc))) (hc : st[lc]? = some (.lst (cls.map eN))) :
    dcM (range1I am) (nameG 4) yesB (varM 4) (ixM (varM 2) (varM 4)) [4] δ st = .ok (.loc st.length) (st ++ [.dK ((List.range n).map fun s => kN (s, cls.getD s 0))]) := by
  have e1 : rangeL 0 n = (List.range n).map eN := by simp [rangeL]
  have e0 : range1I am δ st = .ok ⟨rangeL 0 n, []⟩ st := by rw [e1]; exact range1_eq ham hnl
  unfold dcM
  rw [e0]
  simp only [Res.bind_ok]
  have key := clGo_fold (σ := Nat) (gs := []) (g := nameG 4) (c := yesB) (f := addKV (varM 4) (ixM (varM 2) (varM 4)) st.length) (δ := wipeD δ [4]) (R := fun i => st ++ [.dK ((List.range i).map fun s => kN (s, cls.getD s 0))]) (P := fun xs i => xs = (List.range' i (n - i)).map eN ∧ i ≤ n) (nxt := fun i _ => i + 1)
    (rangeL 0 n) 0 ⟨by rw [e1, List.range_eq_range']; simp, by omega⟩ (fun _ => gok_nil) fun x xs i hp => by
      obtain ⟨h1, h3⟩ := hp
      have hlt : i < n := by
        rcases Nat.lt_or_ge i n with q | q
        · exact q
        · rw [show n - i = 0 by omega] at h1; simp at h1
      rw [show n - i = (n - (i + 1)) + 1 by omega, List.range'_succ, List.map_cons] at h1
      injection h1 with h1 h4
      subst h1
      refine ⟨⟨h4, by omega⟩, _, rfl, .inl ⟨rfl, ?_⟩⟩
      have hnot : i ∉ ((List.range i).map fun s => (s, cls.getD s 0)).map (·.1) := by simp
      have hpd := putD_kN (v := cls.getD i 0) hnot
      simp only [List.map_map] at hpd
      have hw4 : 4 < (wipeD δ [4]).length := by simp [wipeD]; omega
      have hcs : (st ++ [.dK ((List.range i).map fun s => kN (s, cls.getD s 0))])[lc]? = some (.lst (cls.map eN)) := at_old hc
      have hci : cls[i]? = some cls[i] := by simp
      have hgi : cls.getD i 0 = cls[i] := by simp [show i < cls.length by omega]
      unfold addKV
      have hv4 : varM 4 ((wipeD δ [4]).set 4 (some (eN i))) (st ++ [.dK ((List.range i).map fun s => kN (s, cls.getD s 0))]) = .ok (eN i) (st ++ [.dK ((List.range i).map fun s => kN (s, cls.getD s 0))]) := by
        unfold varM; rw [List.getElem?_set_self hw4]
      have hv2 : varM 2 ((wipeD δ [4]).set 4 (some (eN i))) (st ++ [.dK ((List.range i).map fun s => kN (s, cls.getD s 0))]) = .ok (.loc lc) (st ++ [.dK ((List.range i).map fun s => kN (s, cls.getD s 0))]) := by
        unfold varM; rw [List.getElem?_set_ne (by decide), h2]
      have hix : ixM (varM 2) (varM 4) ((wipeD δ [4]).set 4 (some (eN i))) (st ++ [.dK ((List.range i).map fun s => kN (s, cls.getD s 0))]) = .ok (eN (cls.getD i 0)) (st ++ [.dK ((List.range i).map fun s => kN (s, cls.getD s 0))]) := by
        unfold ixM bin2
        rw [hv2]
        simp only [Res.bind_ok, hv4]
        rw [hgi]
        simp only [ixV, hcs, atI_nat, List.getElem?_map, hci, Option.map_some]
      rw [hv4]
      simp only [hix, at_len, List.getElem?_cons_zero, keyOf, List.length_map, List.length_range]
      rw [if_pos (by rw [sizeLine_eq]; omega)]
      simp only [set_len, List.set_cons_zero]
      have : (List.range i).map (fun s => kN (s, cls.getD s 0)) = (List.range i).map (kN ∘ fun s => (s, cls.getD s 0)) := rfl
      rw [this, hpd, List.range_succ]
      simp
  simp only [List.range_zero, List.map_nil] at key
  rw [key]
  have hfold : ∀ (xs : List D) (i : Nat), xs.foldl (fun i _ => i + 1) i = i + xs.length := by
    intro xs
    induction xs with
    | nil => intro i; rfl
    | cons x xs ih => intro i; rw [List.foldl_cons, ih, List.length_cons]; omega
  rw [hfold, rangeL_len]
  simp
end Fx
namespace Fx
open PySem PySem.Spec PyProof.Rows L2
theorem seq_nx {a b : SM} {δ δ1 : En} {st st1 : Store} (h : a δ st = .ok .nx δ1 st1) : seqS a b δ st = b δ1 st1 := by unfold seqS; rw [h]; rfl
theorem set_nx {m : EM} {i : Nat} {δ : En} {st st1 : Store} {d : D} (h : m δ st = .ok d st1) : setS i m δ st = .ok .nx (δ.set i (some d)) st1 := by unfold setS asgS; rw [h]; rfl
theorem asg2_nx {m : EM} {i j : Nat} {δ : En} {st st1 : Store} {d e : D} (h : m δ st = .ok (.tup [d, e]) st1) : asgS m (tupG 2 (consG (nameG i) (consG (nameG j) nilG))) δ st = .ok .nx ((δ.set i (some d)).set j (some e)) st1 := by unfold asgS; rw [h]; rfl
theorem ret_nx {m : EM} {δ : En} {st st1 : Store} {d : D} (h : m δ st = .ok d st1) : retS m δ st = .ok (.rt d) δ st1 := by unfold retS; rw [h]; rfl
theorem for_nx {im : IM} {g : TGM} {b : SM} {δ : En} {st st1 : Store} {it : ItD} {r : SRes} (h : im δ st = .ok it st1) (h2 : forGo it.gs g b it.xs δ st1 = r) : forS im g b δ st = r := by unfold forS; rw [h]; exact h2
theorem run_rt {N : Nat} {m : SM} {ds : List D} {st : Store} {d : D} {δ : En} {st1 : Store} (h : m (ds.map some ++ List.replicate (N - ds.length) none) st = .ok (.rt d) δ st1) : runF N m ds st = .ok d st1 := by unfold runF; rw [h]
theorem getK_range {n g : Nat} {F : Nat → Nat} (h : g < n) : getK ((List.range n).map fun s => kN (s, F s)) (.inl (g : Int)) = some (eN (F g)) := by
  have e : (List.range n).map (fun s => kN (s, F s)) = ((List.range n).map fun s => (s, F s)).map kN := by rw [List.map_map]; rfl
  rw [e, getK_kN]
  have : ∀ (l : List Nat), g ∈ l → (l.map fun s => (s, F s)).lookup g = some (F g) := by
    intro l
    induction l with
    | nil => intro h; cases h
    | cons x l ih =>
      intro h
      rw [List.map_cons, List.lookup_cons]
      by_cases e : g = x
      · subst e; simp
      · have h1 : (g == x) = false := by simpa using e
        rw [h1]
        exact ih (by rcases List.mem_cons.mp h with q | q; exact absurd q e; exact q)
  rw [this _ (List.mem_range.mpr h)]
  rfl
def partL (K i : Nat) (F : Nat → D) : List D := (List.range K).map fun c => if c < i then F c else .non
theorem partL_zero {K : Nat} {F : Nat → D} : partL K 0 F = List.replicate K .non := by
  apply List.ext_getElem
  · simp [partL]
  · intro i h1 h2; simp [partL]
theorem partL_full {K : Nat} {F : Nat → D} : partL K K F = (List.range K).map F := by
  unfold partL
  apply List.map_congr_left
  intro c hc
  rw [if_pos (List.mem_range.mp hc)]
theorem partL_set {K i : Nat} {F : Nat → D} (h : i < K) : (partL K i F).set i (F i) = partL K (i + 1) F := by
  apply List.ext_getElem
  · simp [partL]
  · intro j h1 h2
    rw [List.getElem_set]
    simp only [partL, List.getElem_map, List.getElem_range]
    by_cases e : i = j
    · subst e; simp
    · rw [if_neg e]
      by_cases q : j < i
      · rw [if_pos q, if_pos (by omega)]
      · rw [if_neg q, if_neg (by omega)]
theorem partL_len {K i : Nat} {F : Nat → D} : (partL K i F).length = K := by simp [partL]
abbrev leastStore (st : Store) (cls : List Nat) (n : Nat) (steps : List (List Nat)) (marks : List Nat) (i : Nat) : Store :=
  st ++ [.lst (cls.map eN), .fK ((List.range (cnt cls)).map fun c => kN (c, cls.idxOf c)), .dK ((List.range n).map fun s => kN (s, cls.getD s 0)), .lst [.non], .lst (partL (cnt cls) i fun c => eL ((steps.getD (cls.idxOf c) []).map fun g => cls.getD g 0)), .lst [.non],
    .lst (partL (cnt cls) i fun c => eN (marks.getD (cls.idxOf c) 0))]
theorem fold_step {st : Store} {cls marks : List Nat} {steps : List (List Nat)} {i : Nat} {x9 x10 x11 x12 x13 : Option D} (hv : Valid steps) (hm : marks.length = steps.length) (hc : cls.length = steps.length) (hcl : dedF [] cls = List.range (cnt cls)) (hi : i < cnt cls) :
    seqS (putS (gcM (blM tupleV (consM (lcM (seqI (ixM (varM 0) (varM 4))) (nameG 9) yesB (ixM (varM 6) (varM 9)) [9]) nilM))) (varM 7) (varM 5)) (putS (ixM (varM 1) (varM 4)) (varM 8) (varM 5))
      [some (eS steps), some (eL marks), some (.loc st.length), some (.loc (st.length + 1)), some (eN (cls.idxOf i)), some (eN i), some (.loc (st.length + 2)), some (.loc (st.length + 4)), some (.loc (st.length + 6)), x9, x10, x11, x12, x13] (leastStore st cls steps.length steps marks i) =
    .ok .nx [some (eS steps), some (eL marks), some (.loc st.length), some (.loc (st.length + 1)), some (eN (cls.idxOf i)), some (eN i), some (.loc (st.length + 2)), some (.loc (st.length + 4)), some (.loc (st.length + 6)), x9, x10, x11, x12, x13] (leastStore st cls steps.length steps marks (i + 1)) := by
  have him : i ∈ cls := by
    have : i ∈ dedF [] cls := by rw [hcl]; exact List.mem_range.mpr hi
    have := (dedF_mem cls []).mp this
    simpa using this
  have hs : cls.idxOf i < steps.length := by rw [← hc]; exact List.idxOf_lt_length_of_mem him
  generalize hsd : cls.idxOf i = s at hs ⊢
  have hst : steps[s]? = some steps[s] := by simp [hs]
  have hmt : marks[s]? = some marks[s] := by simp [hm, hs]
  have hgd : steps.getD s [] = steps[s] := by simp [hs]
  have hgm : marks.getD s 0 = marks[s] := by simp [hm, hs]
  have e1 : ∀ y9, seqI (ixM (varM 0) (varM 4)) [some (eS steps), some (eL marks), some (.loc st.length), some (.loc (st.length + 1)), some (eN s), some (eN i), some (.loc (st.length + 2)), some (.loc (st.length + 4)), some (.loc (st.length + 6)), y9, x10, x11, x12, x13] (leastStore st cls steps.length steps marks i) =
      .ok ⟨steps[s].map eN, []⟩ (leastStore st cls steps.length steps marks i) := by
    intro y9
    simp [seqI, atI_nat, hst, hs]
  have e2 := tupLc (g := nameG 9) (c := yesB) (e := ixM (varM 6) (varM 9)) (vs := [9]) (e1 x9) (fun d => match d with
    | .int g => eN (cls.getD g.toNat 0)
    | _ => .non) gok_nil (by have := hv.thin _ (List.getElem_mem hs); rw [sizeLine_eq]; simp; omega) (fun y hy acc2 => by
      obtain ⟨g, hg1, rfl⟩ := List.mem_map.mp hy
      refine ⟨_, rfl, rfl, ?_⟩
      have hg := hv.lt _ (List.getElem_mem hs) g hg1
      have hk := getK_range (F := fun s => cls.getD s 0) hg
      simp [wipeD, hk, -List.getD_eq_getElem?_getD]) (fun y hy => by
      obtain ⟨g, hg1, rfl⟩ := List.mem_map.mp hy
      simp)
  have e3 : (steps[s].map eN).map (fun d => match d with
    | .int g => eN (cls.getD g.toNat 0)
    | _ => .non) = ((steps.getD (cls.idxOf i) []).map fun g => cls.getD g 0).map eN := by
    rw [hsd, hgd, List.map_map, List.map_map]; simp [Function.comp_def]
  rw [e3] at e2
  have f1 := partL_set (F := fun c => eL ((steps.getD (cls.idxOf c) []).map fun g => cls.getD g 0)) hi
  have f2 := partL_set (F := fun c => eN (marks.getD (cls.idxOf c) 0)) hi
  simp only [seqS, putS, e2]
  simp only [hsd, hgm] at f2
  simp [subG, partL_len, hi, atI_nat, hmt, hm, hs, -List.getD_eq_getElem?_getD, -List.map_map]
  exact ⟨f1, f2⟩
theorem fold_loop {st : Store} {cls marks : List Nat} {steps : List (List Nat)} {gs : List (Nat × MO)} {x9 x10 x11 x12 x13 : Option D} (hv : Valid steps) (hm : marks.length = steps.length) (hc : cls.length = steps.length) (hcl : dedF [] cls = List.range (cnt cls))
    (hg : ∀ i, gok gs (leastStore st cls steps.length steps marks i)) : ∀ (j i : Nat) (x4 x5 : Option D), i + j = cnt cls →
    ∃ y4 y5, forGo gs (tupG 2 (consG (nameG 5) (consG (nameG 4) nilG))) (seqS (putS (gcM (blM tupleV (consM (lcM (seqI (ixM (varM 0) (varM 4))) (nameG 9) yesB (ixM (varM 6) (varM 9)) [9]) nilM))) (varM 7) (varM 5)) (putS (ixM (varM 1) (varM 4)) (varM 8) (varM 5)))
      ((List.range' i j).map fun c => .tup [eN c, eN (cls.idxOf c)])
      [some (eS steps), some (eL marks), some (.loc st.length), some (.loc (st.length + 1)), x4, x5, some (.loc (st.length + 2)), some (.loc (st.length + 4)), some (.loc (st.length + 6)), x9, x10, x11, x12, x13] (leastStore st cls steps.length steps marks i) =
    .ok .nx [some (eS steps), some (eL marks), some (.loc st.length), some (.loc (st.length + 1)), y4, y5, some (.loc (st.length + 2)), some (.loc (st.length + 4)), some (.loc (st.length + 6)), x9, x10, x11, x12, x13] (leastStore st cls steps.length steps marks (cnt cls))
  | 0, i, x4, x5, h => ⟨x4, x5, by
      have : i = cnt cls := by omega
      subst this
      exact forGo_nil (hg _)⟩
  | j + 1, i, x4, x5, h => by
    obtain ⟨y4, y5, ih⟩ := fold_loop (x9 := x9) (x10 := x10) (x11 := x11) (x12 := x12) (x13 := x13) hv hm hc hcl hg j (i + 1) (some (eN (cls.idxOf i))) (some (eN i)) (by omega)
    refine ⟨y4, y5, ?_⟩
    rw [List.range'_succ, List.map_cons, ← ih]
    exact forGo_cons (hg _) (by simp) (fold_step hv hm hc hcl (by omega))
theorem fm_congr {α β : Type} {f g : α → Option β} : ∀ {l : List α}, (∀ x ∈ l, f x = g x) → l.filterMap f = l.filterMap g
  | [], _ => rfl
  | x :: l, h => by
    rw [List.filterMap_cons, List.filterMap_cons, h x (List.mem_cons_self ..), fm_congr fun y hy => h y (List.mem_cons_of_mem _ hy)]
theorem idxOf_range {n g : Nat} (h : g < n) : (List.range n).idxOf g = g := by
  have := (List.nodup_range (n := n)).idxOf_getElem g (by simpa using h)
  simpa using this
theorem getD_eq {α : Type} {l : List α} {i : Nat} {d : α} (h : i < l.length) : l.getD i d = l[i] := by simp [h]
theorem renS_id {s : List (List Nat)} (h : ∀ r ∈ s, ∀ g ∈ r, g < s.length) : renS s (List.range s.length) = s := by
  apply List.ext_getElem
  · simp [renS]
  · intro i h1 h2
    simp only [renS, List.getElem_map, List.getElem_range]
    rw [getD_eq h2]
    conv => rhs; rw [← List.map_id s[i]]
    apply List.map_congr_left
    intro g hg
    exact idxOf_range (h _ (List.getElem_mem h2) g hg)
theorem renM_id {m : List Nat} {n : Nat} (h : m.length = n) : renM m (List.range n) = m := by
  subst h
  apply List.ext_getElem
  · simp [renM]
  · intro i h1 h2
    simp only [renM, List.getElem_map, List.getElem_range]
    exact getD_eq h2
theorem cls_zero {cls : List Nat} (h : dedF [] cls = List.range (cnt cls)) (hp : 0 < cls.length) : ∃ t, cls = 0 :: t := by
  cases cls with
  | nil => simp at hp
  | cons c t =>
    have h1 : (dedF [] (c :: t)).idxOf c = ([c] : List Nat).idxOf c := dedF_idx t [c] (by simp)
    have hm : c ∈ dedF [] (c :: t) := dedF_self _ c (List.mem_cons_self ..)
    rw [h] at h1 hm
    rw [idxOf_range (List.mem_range.mp hm)] at h1
    simp at h1
    exact ⟨t, by rw [h1]⟩
theorem foldS_valid {s1 : List (List Nat)} {cls : List Nat} (hv : Valid s1) (hc : cls.length = s1.length) (hcl : dedF [] cls = List.range (cnt cls)) : Valid (foldS s1 cls) where
  pos := by simp [foldS]; exact cnt_pos (by rw [hc]; exact hv.pos)
  lt := fun r hr g hg => by
    obtain ⟨c, hc1, rfl⟩ := List.mem_map.mp hr
    obtain ⟨x, hx, rfl⟩ := List.mem_map.mp hg
    have hcm : c ∈ cls := by
      have : c ∈ dedF [] cls := by rw [hcl]; exact hc1
      simpa using (dedF_mem cls []).mp this
    have hs := List.idxOf_lt_length_of_mem hcm
    rw [hc] at hs
    rw [getD_eq hs] at hx
    have hxl := hv.lt _ (List.getElem_mem hs) x hx
    rw [← hc] at hxl
    rw [getD_eq hxl]
    have : cls[x] ∈ dedF [] cls := dedF_self _ _ (List.getElem_mem hxl)
    rw [hcl] at this
    simpa [foldS] using this
  few := by have := cnt_le cls; have := hv.few; simp [foldS]; omega
  thin := fun r hr => by
    obtain ⟨c, hc1, rfl⟩ := List.mem_map.mp hr
    have hcm : c ∈ cls := by
      have : c ∈ dedF [] cls := by rw [hcl]; exact hc1
      simpa using (dedF_mem cls []).mp this
    have hs := List.idxOf_lt_length_of_mem hcm
    rw [hc] at hs
    rw [List.length_map, getD_eq hs]
    exact hv.thin _ (List.getElem_mem hs)
theorem F_least_eq {steps : List (List Nat)} {marks : List Nat} {st : Store} (hv : Valid steps) (hm : marks.length = steps.length) (hmk : ∀ m ∈ marks, m < 10) (hn : steps.length ≤ 900) :
    F_least [eS steps, eL marks] st = .ok (.tup [eS (leastF steps marks).1, eL (leastF steps marks).2]) st := by
  obtain ⟨r1, r2, r3, t0, r4⟩ := reachedF_ok hv
  have ho : (reachedF steps).length ≤ steps.length := nodup_lt_len r1 r2
  have h0 : 0 < (reachedF steps).length := by rw [r4]; simp
  have e1 := F_reached_eq (st := st) hv
  have e2 := F_renumbered_eq (dS := eS steps) (dM := eL marks) (l := st.length) (steps := steps) (marks := marks) (order := reachedF steps) (st := st ++ [.lst ((reachedF steps).map eN)]) rfl rfl (by simp) r1 (fun s hs => ⟨r2 s hs, by rw [hm]; exact r2 s hs⟩) r3 (by omega) hv.thin
  have hv1 := renS_valid hv h0 r1 r2 r3
  have hl1 : (renS steps (reachedF steps)).length = (reachedF steps).length := by simp [renS]
  have hm1 : (renM marks (reachedF steps)).length = (renS steps (reachedF steps)).length := by simp [renS, renM]
  have hmk1 : ∀ m ∈ renM marks (reachedF steps), m < 10 := fun m hm' => by
    obtain ⟨s, hs, rfl⟩ := List.mem_map.mp hm'
    have : s < marks.length := by rw [hm]; exact r2 s hs
    have hgd : marks.getD s 0 = marks[s] := by simp [this]
    rw [hgd]; exact hmk _ (List.getElem_mem this)
  unfold leastF
  simp only
  generalize hs1 : renS steps (reachedF steps) = s1 at *
  generalize hm1' : renM marks (reachedF steps) = m1 at *
  have e3 := F_classes_eq (st := st) hv1 hm1 hmk1 (by omega)
  have hcl := classesF_num s1 m1
  have hcln := classesF_len hm1
  generalize hcls : classesF s1 m1 = cls at *
  have hpos : 0 < cnt cls := by
    rw [← hcls]
    have := cnt_pos (xs := classesF s1 m1) (by rw [classesF_len hm1]; exact hv1.pos)
    exact this
  have hs1n : s1.length ≤ 900 := by omega
  have hKle : cnt cls ≤ s1.length := by have := cnt_le cls; omega
  -- the two halves of the code
  have g1 : gcM (callM 3 F_renumbered (consM (varM 0) (consM (varM 1) (consM (callM 1 F_reached (consM (varM 0) nilM)) nilM)))) [some (eS steps), some (eL marks), none, none, none, none, none, none, none, none, none, none, none, none] st = .ok (.tup [eS s1, eL m1]) st :=
    gcM_eq (r := .ok (.tup [eS s1, eL m1]) (st ++ [.lst ((reachedF steps).map eN)])) (by simp [e1]; exact e2) (gc_val (by
      have a := eS_lows (n := st.length) s1
      have b := eL_lows (n := st.length) m1
      simp only [lows_tup, lowsL_cons, lowsL_nil] at a b ⊢
      rw [a, b]; rfl))
  obtain ⟨y4, y5, g2⟩ := first_loop (gs := [(st.length, .lst (cls.map eN))]) (l := st.length + 1) (d0 := some (eS s1)) (d1 := some (eL m1)) (d2 := some (.loc st.length)) (rest := [none, none, none, none, none, none, none, none]) (st ++ [.lst (cls.map eN), .dK []]) (by simp) (by simp) (gok_one.mpr (by simp)) cls 0 [] none none (by simp; omega) (by simp)
  rw [fstF_classes hcl] at g2
  simp only [List.map_map, set_len_add, List.set_cons_succ, List.set_cons_zero] at g2
  have g3 := names_id (δ := [some (eS s1), some (eL m1), some (.loc st.length), some (.loc (st.length + 1)), y4, y5, none, none, none, none, none, none, none, none]) (st := st ++ [.lst (cls.map eN), .dK ((List.range (cnt cls)).map (kN ∘ fun c => (c, cls.idxOf c)))]) (lc := st.length) (n := s1.length) (cls := cls) (am := consM (blM lenV (consM (varM 0) nilM)) nilM)
    hcln.symm (by omega) (by simp) (by simp) rfl (by simp)
  simp only [Function.comp_def] at g2 g3
  have hvf := foldS_valid hv1 hcln hcl
  have hmf : (foldM m1 cls).length = (foldS s1 cls).length := by simp [foldS, foldM]
  have hfl : (foldS s1 cls).length = cnt cls := by simp [foldS]
  obtain ⟨z4, z5, g4⟩ := fold_loop (st := st) (gs := [(st.length + 1, .fK ((List.range (cnt cls)).map fun c => kN (c, cls.idxOf c)))]) (x9 := none) (x10 := none) (x11 := none) (x12 := none) (x13 := none) hv1 hm1 hcln hcl (fun i => gok_one.mpr (by simp)) (cnt cls) 0 y4 y5 (by omega)
  have hF1 : partL (cnt cls) (cnt cls) (fun c => eL ((s1.getD (cls.idxOf c) []).map fun g => cls.getD g 0)) = (foldS s1 cls).map eL := by
    rw [partL_full, foldS, List.map_map]; rfl
  have hF2 : partL (cnt cls) (cnt cls) (fun c => eN (m1.getD (cls.idxOf c) 0)) = (foldM m1 cls).map eN := by
    rw [partL_full, foldM, List.map_map]; rfl
  have g5 : lockS 3 (forS (itemsI (varM 3)) (tupG 2 (consG (nameG 5) (consG (nameG 4) nilG))) (seqS (putS (gcM (blM tupleV (consM (lcM (seqI (ixM (varM 0) (varM 4))) (nameG 9) yesB (ixM (varM 6) (varM 9)) [9]) nilM))) (varM 7) (varM 5)) (putS (ixM (varM 1) (varM 4)) (varM 8) (varM 5))))
      [some (eS s1), some (eL m1), some (.loc st.length), some (.loc (st.length + 1)), y4, y5, some (.loc (st.length + 2)), some (.loc (st.length + 4)), some (.loc (st.length + 6)), none, none, none, none, none]
      (st ++ [.lst (cls.map eN), .dK ((List.range (cnt cls)).map fun c => kN (c, cls.idxOf c)), .dK ((List.range s1.length).map fun s => kN (s, cls.getD s 0)), .lst [.non], .lst (List.replicate (cnt cls) .non), .lst [.non], .lst (List.replicate (cnt cls) .non)]) =
      .ok .nx [some (eS s1), some (eL m1), some (.loc st.length), some (.loc (st.length + 1)), z4, z5, some (.loc (st.length + 2)), some (.loc (st.length + 4)), some (.loc (st.length + 6)), none, none, none, none, none]
      (st ++ [.lst (cls.map eN), .dK ((List.range (cnt cls)).map fun c => kN (c, cls.idxOf c)), .dK ((List.range s1.length).map fun s => kN (s, cls.getD s 0)), .lst [.non], .lst ((foldS s1 cls).map eL), .lst [.non], .lst ((foldM m1 cls).map eN)]) := by
    have hit : itemsI (varM 3) [some (eS s1), some (eL m1), some (.loc st.length), some (.loc (st.length + 1)), y4, y5, some (.loc (st.length + 2)), some (.loc (st.length + 4)), some (.loc (st.length + 6)), none, none, none, none, none] (leastStore st cls s1.length s1 m1 0) =
        .ok ⟨(List.range' 0 (cnt cls)).map fun c => .tup [eN c, eN (cls.idxOf c)], [(st.length + 1, .fK ((List.range (cnt cls)).map fun c => kN (c, cls.idxOf c)))]⟩ (leastStore st cls s1.length s1 m1 0) := by
      simp [itemsI, List.range_eq_range', kD, Function.comp_def]
    unfold leastStore at g4 hit
    rw [hF1, hF2, partL_zero, partL_zero] at g4
    rw [partL_zero, partL_zero] at hit
    simp [lockS, MO.lock, unlockR, forS, hit, g4, -seqS, -putS, -List.getD_eq_getElem?_getD]
  obtain ⟨ct, hct⟩ := cls_zero hcl (by rw [hcln]; exact hv1.pos)
  have g6 : ∀ (w5 : Option D), lcM (range1I (consM (blM lenV (consM (varM 7) nilM)) nilM)) (nameG 5) (asB (neM (varM 5) (varM 10))) (varM 5) [5]
      [some (eS s1), some (eL m1), some (.loc st.length), some (.loc (st.length + 1)), z4, w5, some (.loc (st.length + 2)), some (.loc (st.length + 4)), some (.loc (st.length + 6)), none, some (eN 0), none, none, none]
      (st ++ [.lst (cls.map eN), .dK ((List.range (cnt cls)).map fun c => kN (c, cls.idxOf c)), .dK ((List.range s1.length).map fun s => kN (s, cls.getD s 0)), .lst [.non], .lst ((foldS s1 cls).map eL), .lst [.non], .lst ((foldM m1 cls).map eN), .lst [eN 0]]) =
      .ok (.loc (st.length + 8)) (st ++ [.lst (cls.map eN), .dK ((List.range (cnt cls)).map fun c => kN (c, cls.idxOf c)), .dK ((List.range s1.length).map fun s => kN (s, cls.getD s 0)), .lst [.non], .lst ((foldS s1 cls).map eL), .lst [.non], .lst ((foldM m1 cls).map eN), .lst [eN 0], .lst ((List.range' 1 (cnt cls - 1)).map eN)]) := by
    intro w5
    have hi := range1_eq (am := consM (blM lenV (consM (varM 7) nilM)) nilM) (δ := [some (eS s1), some (eL m1), some (.loc st.length), some (.loc (st.length + 1)), z4, w5, some (.loc (st.length + 2)), some (.loc (st.length + 4)), some (.loc (st.length + 6)), none, some (eN 0), none, none, none])
      (st := st ++ [.lst (cls.map eN), .dK ((List.range (cnt cls)).map fun c => kN (c, cls.idxOf c)), .dK ((List.range s1.length).map fun s => kN (s, cls.getD s 0)), .lst [.non], .lst ((foldS s1 cls).map eL), .lst [.non], .lst ((foldM m1 cls).map eN), .lst [eN 0]]) (n := cnt cls) (by simp [hfl]) (by omega)
    rw [lcM_filter hi (fun d => match d with
      | .int i => if i = 0 then none else some (.int i)
      | _ => none) gok_nil (by rw [sizeLine_eq]; simp; omega) fun x hx acc => ?_]
    · have : ((List.range (cnt cls)).map eN).filterMap (fun d => match d with
        | .int i => if i = 0 then none else some (.int i)
        | _ => none) = (List.range' 1 (cnt cls - 1)).map eN := by
        rw [List.filterMap_map]
        obtain ⟨k, hk⟩ : ∃ k, cnt cls = k + 1 := ⟨cnt cls - 1, by omega⟩
        rw [hk, List.range_eq_range', List.range'_succ, List.filterMap_cons]
        simp only [Function.comp_apply, Int.natCast_zero, Int.ofNat_eq_natCast, if_true, Nat.zero_add, Nat.add_sub_cancel]
        rw [← List.filterMap_eq_map]
        apply fm_congr
        intro x hx
        have := List.mem_range'_1.mp hx
        simp; omega
      simp only [this]
      simp
    · obtain ⟨c, hc1, rfl⟩ := List.mem_map.mp hx
      refine ⟨_, rfl, ?_⟩
      by_cases h0 : c = 0
      · subst h0
        simp [wipeD]
      · have : ¬ ((c : Int) = 0) := by omega
        simp [wipeD, this, h0]
  have hK1 : eN 0 :: (List.range' 1 (cnt cls - 1)).map eN = (List.range (cnt cls)).map eN := by
    obtain ⟨k, hk⟩ : ∃ k, cnt cls = k + 1 := ⟨cnt cls - 1, by omega⟩
    rw [hk, List.range_eq_range', List.range'_succ, List.map_cons]
    simp
  have hri := renS_id hvf.lt
  rw [hfl] at hri
  have hrm := renM_id (hmf.trans hfl)
  have g7 := F_renumbered_eq (dS := .loc (st.length + 4)) (dM := .loc (st.length + 6)) (l := st.length + 9) (steps := foldS s1 cls) (marks := foldM m1 cls) (order := List.range (cnt cls))
    (st := st ++ [.lst (cls.map eN), .dK ((List.range (cnt cls)).map fun c => kN (c, cls.idxOf c)), .dK ((List.range s1.length).map fun s => kN (s, cls.getD s 0)), .lst [.non], .lst ((foldS s1 cls).map eL), .lst [.non], .lst ((foldM m1 cls).map eN), .lst [eN 0], .lst ((List.range' 1 (cnt cls - 1)).map eN), .lst ((List.range (cnt cls)).map eN)])
    (by simp [seqOf]) (by simp [seqOf]) (by simp) List.nodup_range (fun s hs => by rw [hmf, hfl]; exact ⟨List.mem_range.mp hs, List.mem_range.mp hs⟩) (fun s hs g hg => by
      have hsl : s < (foldS s1 cls).length := by rw [hfl]; exact List.mem_range.mp hs
      rw [getD_eq hsl] at hg
      have := hvf.lt _ (List.getElem_mem hsl) g hg
      rw [hfl] at this
      exact List.mem_range.mpr this) (by simp; omega) hvf.thin
  rw [hri, hrm] at g7
  obtain ⟨q1, q2, q3, t1, q4⟩ := reachedF_ok hvf
  have hq := nodup_lt_len q1 q2
  have g8 : ∀ (δ : En) (s : Store), δ[12]? = some (some (eS (foldS s1 cls))) → δ[13]? = some (some (eL (foldM m1 cls))) → gcM (callM 3 F_renumbered (consM (varM 12) (consM (varM 13) (consM (callM 1 F_reached (consM (varM 12) nilM)) nilM)))) δ s =
      .ok (.tup [eS (renS (foldS s1 cls) (reachedF (foldS s1 cls))), eL (renM (foldM m1 cls) (reachedF (foldS s1 cls)))]) s := by
    intro δ s h12 h13
    have a1 := F_reached_eq (st := s) hvf
    have a2 := F_renumbered_eq (dS := eS (foldS s1 cls)) (dM := eL (foldM m1 cls)) (l := s.length) (steps := foldS s1 cls) (marks := foldM m1 cls) (order := reachedF (foldS s1 cls)) (st := s ++ [.lst ((reachedF (foldS s1 cls)).map eN)]) rfl rfl (by simp) q1 (fun s hs => ⟨q2 s hs, by rw [hmf]; exact q2 s hs⟩) q3 (by omega) hvf.thin
    refine gcM_eq (r := .ok (.tup [eS (renS (foldS s1 cls) (reachedF (foldS s1 cls))), eL (renM (foldM m1 cls) (reachedF (foldS s1 cls)))]) (s ++ [.lst ((reachedF (foldS s1 cls)).map eN)])) ?_ (gc_val ?_)
    · have b12 : varM 12 δ = fun s => .ok (eS (foldS s1 cls)) s := by funext s; unfold varM; rw [h12]
      have b13 : varM 13 δ = fun s => .ok (eL (foldM m1 cls)) s := by funext s; unfold varM; rw [h13]
      simp only [callM, consM, nilM, b12, b13, Res.bind_ok, List.length_cons, List.length_nil, Nat.zero_add, if_true, a1]
      exact a2
    · have a := eS_lows (n := s.length) (renS (foldS s1 cls) (reachedF (foldS s1 cls)))
      have b := eL_lows (n := s.length) (renM (foldM m1 cls) (reachedF (foldS s1 cls)))
      rw [lows_tup, lowsL_cons, lowsL_cons, lowsL_nil, a, b]; rfl
  have hc0 : cls[0]? = some 0 := by rw [hct]; rfl
  have run : (callM 2 F_classes_of (consM (varM 0) (consM (varM 1) nilM))) [some (eS s1), some (eL m1), none, none, none, none, none, none, none, none, none, none, none, none] st = .ok (.loc st.length) (st ++ [.lst (cls.map eN)]) := by
    simp; exact e3
  have en : enumI (consM (varM 2) nilM) [some (eS s1), some (eL m1), some (.loc st.length), some (.loc (st.length + 1)), none, none, none, none, none, none, none, none, none, none] (st ++ [.lst (cls.map eN), .dK []]) = .ok ⟨cls.zipIdx.map fun p => .tup [eN p.2, eN p.1], [(st.length, .lst (cls.map eN))]⟩ (st ++ [.lst (cls.map eN), .dK []]) := by
    simp [enumI, enumL_map]
  have mul : ∀ (l : Nat) (s : Store), s[l]? = some (.lst [.non]) → mulTV (.loc l) (.int (cnt cls : Nat)) s = .ok (.loc s.length) (s ++ [.lst (List.replicate (cnt cls) .non)]) := by
    intro l s hl
    simp only [mulTV, mulV, hl]
    rw [if_pos ⟨Int.le_trans (by decide +kernel) (Int.natCast_nonneg _), Int.lt_of_le_of_lt (Int.ofNat_le.mpr (show cnt cls ≤ 1000 by omega)) (by decide +kernel), by rw [sizeLine_eq]; simp; omega⟩]
    simp
  simp only [List.length_append, List.length_cons, List.length_nil, Nat.zero_add, Nat.reduceAdd, List.append_assoc, List.cons_append, List.nil_append] at g3
  have h1s : 1 ≤ sizeLine := by rw [sizeLine_eq]; decide
  have m1' : ∀ (δ : En) (s : Store), δ[3]? = some (some (.loc (st.length + 1))) → s[st.length + 1]? = some (.dK ((List.range (cnt cls)).map fun c => kN (c, cls.idxOf c))) →
      mulTM (lstM (consM (conM .non) nilM)) (blM lenV (consM (varM 3) nilM)) δ s = .ok (.loc (s.length + 1)) (s ++ [.lst [.non], .lst (List.replicate (cnt cls) .non)]) := by
    intro δ s h3 hs
    have a1 : (lstM (consM (conM .non) nilM)) δ s = .ok (.loc s.length) (s ++ [.lst [.non]]) := by
      simp only [lstM, consM, conM, nilM, Res.bind_ok, List.length_cons, List.length_nil]
      rw [if_pos h1s]
    have a2 : (blM lenV (consM (varM 3) nilM)) δ (s ++ [.lst [.non]]) = .ok (.int (cnt cls : Nat)) (s ++ [.lst [.non]]) := by
      have b3 : varM 3 δ (s ++ [.lst [.non]]) = .ok (.loc (st.length + 1)) (s ++ [.lst [.non]]) := by unfold varM; rw [h3]
      simp only [blM, consM, nilM, b3, Res.bind_ok, lenV, at_old hs, List.length_map, List.length_range]
    unfold mulTM bin2
    rw [a1]
    simp only [Res.bind_ok, a2]
    rw [mul _ _ (by simp)]
    simp
  have m2 := m1' [some (eS s1), some (eL m1), some (.loc st.length), some (.loc (st.length + 1)), y4, y5, some (.loc (st.length + 2)), none, none, none, none, none, none, none] (st ++ [.lst (cls.map eN), .dK ((List.range (cnt cls)).map fun c => kN (c, cls.idxOf c)), .dK ((List.range s1.length).map fun s => kN (s, cls.getD s 0))]) rfl (by simp)
  have m3 := m1' [some (eS s1), some (eL m1), some (.loc st.length), some (.loc (st.length + 1)), y4, y5, some (.loc (st.length + 2)), some (.loc (st.length + 4)), none, none, none, none, none, none] (st ++ [.lst (cls.map eN), .dK ((List.range (cnt cls)).map fun c => kN (c, cls.idxOf c)), .dK ((List.range s1.length).map fun s => kN (s, cls.getD s 0)), .lst [.non], .lst (List.replicate (cnt cls) .non)]) rfl (by simp)
  simp only [List.length_append, List.length_cons, List.length_nil, Nat.zero_add, Nat.reduceAdd, List.append_assoc, List.cons_append, List.nil_append, Nat.add_assoc] at m2 m3
  have g9 : addM (lstM (consM (varM 10) nilM)) (lcM (range1I (consM (blM lenV (consM (varM 7) nilM)) nilM)) (nameG 5) (asB (neM (varM 5) (varM 10))) (varM 5) [5])
      [some (eS s1), some (eL m1), some (.loc st.length), some (.loc (st.length + 1)), z4, z5, some (.loc (st.length + 2)), some (.loc (st.length + 4)), some (.loc (st.length + 6)), none, some (eN 0), none, none, none]
      (st ++ [.lst (cls.map eN), .dK ((List.range (cnt cls)).map fun c => kN (c, cls.idxOf c)), .dK ((List.range s1.length).map fun s => kN (s, cls.getD s 0)), .lst [.non], .lst ((foldS s1 cls).map eL), .lst [.non], .lst ((foldM m1 cls).map eN)]) = .ok (.loc (st.length + 9))
      (st ++ [.lst (cls.map eN), .dK ((List.range (cnt cls)).map fun c => kN (c, cls.idxOf c)), .dK ((List.range s1.length).map fun s => kN (s, cls.getD s 0)), .lst [.non], .lst ((foldS s1 cls).map eL), .lst [.non], .lst ((foldM m1 cls).map eN), .lst [eN 0], .lst ((List.range' 1 (cnt cls - 1)).map eN), .lst ((List.range (cnt cls)).map eN)]) := by
    have a1 : lstM (consM (varM 10) nilM) [some (eS s1), some (eL m1), some (.loc st.length), some (.loc (st.length + 1)), z4, z5, some (.loc (st.length + 2)), some (.loc (st.length + 4)), some (.loc (st.length + 6)), none, some (eN 0), none, none, none]
      (st ++ [.lst (cls.map eN), .dK ((List.range (cnt cls)).map fun c => kN (c, cls.idxOf c)), .dK ((List.range s1.length).map fun s => kN (s, cls.getD s 0)), .lst [.non], .lst ((foldS s1 cls).map eL), .lst [.non], .lst ((foldM m1 cls).map eN)]) = .ok (.loc (st.length + 7)) (st ++ [.lst (cls.map eN), .dK ((List.range (cnt cls)).map fun c => kN (c, cls.idxOf c)), .dK ((List.range s1.length).map fun s => kN (s, cls.getD s 0)), .lst [.non], .lst ((foldS s1 cls).map eL), .lst [.non], .lst ((foldM m1 cls).map eN), .lst [eN 0]]) := by
      simp only [lstM, consM, varM, nilM, List.getElem?_cons_succ, List.getElem?_cons_zero, Res.bind_ok, List.length_cons, List.length_nil]
      rw [if_pos h1s]
      simp
    unfold addM bin2
    rw [a1]
    simp only [Res.bind_ok, g6]
    simp only [addV, at_len_add, List.getElem?_cons_succ, List.getElem?_cons_zero]
    rw [if_pos (by rw [sizeLine_eq]; simp; omega)]
    simp only [List.cons_append, List.nil_append, hK1]
    simp
  have hix0 : ixM (varM 2) (conM (.int 0)) [some (eS s1), some (eL m1), some (.loc st.length), some (.loc (st.length + 1)), z4, z5, some (.loc (st.length + 2)), some (.loc (st.length + 4)), some (.loc (st.length + 6)), none, none, none, none, none]
      (st ++ [.lst (cls.map eN), .dK ((List.range (cnt cls)).map fun c => kN (c, cls.idxOf c)), .dK ((List.range s1.length).map fun s => kN (s, cls.getD s 0)), .lst [.non], .lst ((foldS s1 cls).map eL), .lst [.non], .lst ((foldM m1 cls).map eN)]) = .ok (eN 0) (st ++ [.lst (cls.map eN), .dK ((List.range (cnt cls)).map fun c => kN (c, cls.idxOf c)), .dK ((List.range s1.length).map fun s => kN (s, cls.getD s 0)), .lst [.non], .lst ((foldS s1 cls).map eL), .lst [.non], .lst ((foldM m1 cls).map eN)]) := by
    unfold ixM bin2
    simp only [varM, List.getElem?_cons_succ, List.getElem?_cons_zero, Res.bind_ok, conM, ixV, at_len, atI_0, List.getElem?_map, hc0, Option.map_some]
  have g10 : callM 3 F_renumbered (consM (varM 7) (consM (varM 8) (consM (varM 11) nilM))) [some (eS s1), some (eL m1), some (.loc st.length), some (.loc (st.length + 1)), z4, z5, some (.loc (st.length + 2)), some (.loc (st.length + 4)), some (.loc (st.length + 6)), none, some (eN 0), some (.loc (st.length + 9)), none, none]
      (st ++ [.lst (cls.map eN), .dK ((List.range (cnt cls)).map fun c => kN (c, cls.idxOf c)), .dK ((List.range s1.length).map fun s => kN (s, cls.getD s 0)), .lst [.non], .lst ((foldS s1 cls).map eL), .lst [.non], .lst ((foldM m1 cls).map eN), .lst [eN 0], .lst ((List.range' 1 (cnt cls - 1)).map eN), .lst ((List.range (cnt cls)).map eN)]) = .ok (.tup [eS (foldS s1 cls), eL (foldM m1 cls)]) (st ++ [.lst (cls.map eN), .dK ((List.range (cnt cls)).map fun c => kN (c, cls.idxOf c)), .dK ((List.range s1.length).map fun s => kN (s, cls.getD s 0)), .lst [.non], .lst ((foldS s1 cls).map eL), .lst [.non], .lst ((foldM m1 cls).map eN), .lst [eN 0], .lst ((List.range' 1 (cnt cls - 1)).map eN), .lst ((List.range (cnt cls)).map eN)]) := by
    simp only [callM, consM, varM, nilM, List.getElem?_cons_succ, List.getElem?_cons_zero, Res.bind_ok, List.length_cons, List.length_nil, Nat.zero_add, Nat.reduceAdd, if_true]
    exact g7
  have g11 := g8 [some (eS s1), some (eL m1), some (.loc st.length), some (.loc (st.length + 1)), z4, z5, some (.loc (st.length + 2)), some (.loc (st.length + 4)), some (.loc (st.length + 6)), none, some (eN 0), some (.loc (st.length + 9)), some (eS (foldS s1 cls)), some (eL (foldM m1 cls))]
      (st ++ [.lst (cls.map eN), .dK ((List.range (cnt cls)).map fun c => kN (c, cls.idxOf c)), .dK ((List.range s1.length).map fun s => kN (s, cls.getD s 0)), .lst [.non], .lst ((foldS s1 cls).map eL), .lst [.non], .lst ((foldM m1 cls).map eN), .lst [eN 0], .lst ((List.range' 1 (cnt cls - 1)).map eN), .lst ((List.range (cnt cls)).map eN)]) rfl rfl
  have body : ∃ δ' t, m_least ([eS steps, eL marks].map some ++ List.replicate (14 - [eS steps, eL marks].length) none) st = .ok (.rt (.tup [eS (renS (foldS s1 cls) (reachedF (foldS s1 cls))), eL (renM (foldM m1 cls) (reachedF (foldS s1 cls)))])) δ' (st ++ t) := by
    exact ⟨_, _, (seq_nx (asg2_nx g1)).trans <| (seq_nx (set_nx run)).trans <| (seq_nx (set_nx (m := newKM) (st := st ++ [.lst (cls.map eN)]) (d := .loc (st.length + 1)) (st1 := st ++ [.lst (cls.map eN), .dK []]) (by simp))).trans <|
      (seq_nx (for_nx en g2)).trans <| (seq_nx (set_nx g3)).trans <| (seq_nx (set_nx m2)).trans <| (seq_nx (set_nx m3)).trans <| (seq_nx g5).trans <| (seq_nx (set_nx hix0)).trans <| (seq_nx (set_nx g9)).trans <| (seq_nx (asg2_nx g10)).trans (ret_nx g11)⟩
  obtain ⟨δ', t, body⟩ := body
  unfold F_least gcF
  rw [run_rt body]
  refine gc_val ?_
  rw [lows_tup]
  refine lowsL_all fun d hd => ?_
  rcases List.mem_cons.mp hd with rfl | hd
  · exact eS_lows _
  · rw [List.mem_singleton.mp hd]; exact eL_lows _
end Fx
namespace Fx
open PySem PySem.Spec PyProof.Rows L2
/-! ### rows -/
structure Good (b : Nat) (steps : List (List Nat)) (marks : List Nat) : Prop where
  v : Valid steps
  b2 : 2 ≤ b
  b16 : b ≤ 16
  n60 : steps.length ≤ 60
  wide : ∀ r ∈ steps, r.length = b
  ml : marks.length = steps.length
  m10 : ∀ m ∈ marks, m < 10
  pf : ∀ s, s < steps.length → marks.getD ((steps.getD s []).getD 0 0) 0 = marks.getD s 0
abbrev eR (b : Nat) (steps : List (List Nat)) (marks : List Nat) : D := .tup [eN b, eS steps, eL marks]
theorem eR_lows {n : Nat} (b : Nat) (steps : List (List Nat)) (marks : List Nat) : D.lows n (eR b steps marks) = true := by
  rw [lows_tup]
  refine lowsL_all fun d hd => ?_
  rcases List.mem_cons.mp hd with rfl | hd
  · exact lows_int
  · rcases List.mem_cons.mp hd with rfl | hd
    · exact eS_lows _
    · rw [List.mem_singleton.mp hd]; exact eL_lows _
def leastR (b : Nat) (steps : List (List Nat)) (marks : List Nat) : D := eR b (leastF steps marks).1 (leastF steps marks).2
theorem F_raw_least_eq {b : Nat} {steps : List (List Nat)} {marks : List Nat} {st : Store} (g : Good b steps marks) : F_raw_least_row [eR b steps marks] st = .ok (leastR b steps marks) st := by
  have h := F_least_eq (st := st) g.v g.ml g.m10 (by have := g.n60; omega)
  have e : m_raw_least_row [some (eR b steps marks)] st = .ok (.rt (leastR b steps marks)) [some (eR b steps marks)] st := by
    refine ret_nx ?_
    unfold addM bin2
    have a1 : tupM (consM (ixM (varM 0) (conM (.int 0))) nilM) [some (eR b steps marks)] st = .ok (.tup [eN b]) st := by simp [sizeLine_eq]
    have a2 : callM 2 F_least (consM (ixM (varM 0) (conM (.int 1))) (consM (ixM (varM 0) (conM (.int 2))) nilM)) [some (eR b steps marks)] st = .ok (.tup [eS (leastF steps marks).1, eL (leastF steps marks).2]) st := by
      have : callM 2 F_least (consM (ixM (varM 0) (conM (.int 1))) (consM (ixM (varM 0) (conM (.int 2))) nilM)) [some (eR b steps marks)] st = F_least [eS steps, eL marks] st := by simp
      rw [this, h]
    rw [a1]
    simp only [Res.bind_ok, a2, addV, List.length_cons, List.length_nil]
    rw [if_pos (by rw [sizeLine_eq]; decide)]
    rfl
  unfold F_raw_least_row gcF
  rw [run_rt (N := 1) (ds := [eR b steps marks]) e]
  exact gc_id (eR_lows _ _ _)
theorem eqB_str {x : Str} {st : Store} (h : SeqAt.shaped (.str x) = true) : eqB st (.str x) (.str x) = some true := by
  unfold eqB pyD
  simp only [h, and_self, if_true, Option.some.injEq]
  simp [PyData.eqv]
theorem digit_ok : ∀ a : Fin 10, PyData.strOk (toString ((a.val : Nat) : Int)) = true := by decide +kernel
theorem shaped_str {n : Nat} (h : n < 10) : SeqAt.shaped (.str (toString (n : Int))) = true := by
  have := digit_ok ⟨n, h⟩
  simp only at this
  simp only [SeqAt.shaped, PyData.canLay0, PyData.depth, this]
  rfl
theorem F_is_proof_eq {b : Nat} {steps : List (List Nat)} {marks : List Nat} {st : Store} (g : Good b steps marks) : F_is_proof [eS steps, eL marks] st = .ok (.bl true) st := by
  have hi : enumI (consM (varM 0) nilM) [some (eS steps), some (eL marks), none, none] st = .ok ⟨enumL (steps.map eL), []⟩ st := by simp [enumI]
  have e := allLc (g := tupG 2 (consG (nameG 2) (consG (nameG 3) nilG))) (c := yesB) (e := eqM (blM reprIV (consM (ixM (varM 1) (ixM (varM 3) (conM (.int 0)))) nilM)) (blM reprIV (consM (ixM (varM 1) (varM 2)) nilM))) (vs := [2, 3]) hi (fun _ => true) gok_nil (by rw [enumL_len, sizeLine_eq]; have := g.n60; simp; omega) (fun x hx acc => by
    rw [enumL_map] at hx
    obtain ⟨⟨row, i⟩, hp, rfl⟩ := List.mem_map.mp hx
    obtain ⟨hi2, hrow⟩ := List.mem_zipIdx' hp
    refine ⟨_, rfl, rfl, ?_⟩
    have hrm : row ∈ steps := hrow ▸ List.getElem_mem hi2
    have hw := g.wide row hrm
    have hb := g.b2
    have h0 : 0 < row.length := by omega
    have hr0 : row[0]? = some row[0] := by simp [h0]
    have hlt := g.v.lt row hrm row[0] (List.getElem_mem h0)
    have hpf := g.pf i hi2
    have hgd : steps.getD i [] = row := by rw [getD_eq hi2]; exact hrow.symm
    rw [hgd, getD_eq h0, getD_eq (by rw [g.ml]; exact hlt), getD_eq (by rw [g.ml]; exact hi2)] at hpf
    have hmi : i < marks.length := by rw [g.ml]; exact hi2
    have hm1 : marks[row[0]]? = some marks[i] := by rw [← hpf]; simp [g.ml, hlt]
    have hm2 : marks[i]? = some marks[i] := by simp [g.ml, hi2]
    have hsm := log_small (g.m10 _ (List.getElem_mem (show i < marks.length by rw [g.ml]; exact hi2)))
    have hss := shaped_str (g.m10 _ (List.getElem_mem hmi))
    have heq := fun s => eqB_str (st := s) hss
    simp at heq
    simp [wipeD, hr0, atI_nat, hm1, hm2, reprIV, hsm, hmi, eqV, heq])
  have hall : (enumL (steps.map eL)).all (fun _ => true) = true := by simp
  rw [hall] at e
  unfold F_is_proof gcF
  rw [run_rt (N := 4) (m := m_is_proof) (ds := [eS steps, eL marks]) (show m_is_proof _ _ = _ from ret_nx e)]
  exact gc_id lows_bl
theorem lc2M_map {im im1 : IM} {g g1 : TGM} {c c1 : BM} {e : EM} {vs vs1 : List Nat} {δ : En} {st : Store} {it : ItD} (him : im δ st = .ok it st) (G : D → List D) (F : D → D → D) (hg : gok it.gs st) (hl : (it.xs.flatMap fun x => (G x).map (F x)).length ≤ sizeLine)
    (hx : ∀ x ∈ it.xs, ∀ acc : List D, ∃ δ1 gs1, g x (wipeD δ vs) (st ++ [.lst acc]) = .ok .nx δ1 (st ++ [.lst acc]) ∧ c δ1 (st ++ [.lst acc]) = .ok true (st ++ [.lst acc]) ∧ im1 δ1 (st ++ [.lst acc]) = .ok ⟨G x, gs1⟩ (st ++ [.lst acc]) ∧ gok gs1 st ∧
      ∀ y ∈ G x, ∀ acc2 : List D, ∃ δ2, g1 y (wipeD δ1 vs1) (st ++ [.lst acc2]) = .ok .nx δ2 (st ++ [.lst acc2]) ∧ c1 δ2 (st ++ [.lst acc2]) = .ok true (st ++ [.lst acc2]) ∧ e δ2 (st ++ [.lst acc2]) = .ok (F x y) (st ++ [.lst acc2])) :
    lc2M im g c im1 g1 c1 e vs vs1 δ st = .ok (.loc st.length) (st ++ [.lst (it.xs.flatMap fun x => (G x).map (F x))]) := by
  unfold lc2M
  rw [him]
  simp only [Res.bind_ok]
  have inner : ∀ x ∈ it.xs, ∀ (δ1 : En) (gs1 : List (Nat × MO)) (acc : List D), acc.length + (G x).length ≤ sizeLine → gok gs1 st → (∀ y ∈ G x, ∀ acc2 : List D, ∃ δ2, g1 y (wipeD δ1 vs1) (st ++ [.lst acc2]) = .ok .nx δ2 (st ++ [.lst acc2]) ∧ c1 δ2 (st ++ [.lst acc2]) = .ok true (st ++ [.lst acc2]) ∧ e δ2 (st ++ [.lst acc2]) = .ok (F x y) (st ++ [.lst acc2])) →
      clGo gs1 g1 c1 (addEl e st.length) (wipeD δ1 vs1) (G x) (st ++ [.lst acc]) = .ok () (st ++ [.lst (acc ++ (G x).map (F x))]) := by
    intro x hx1 δ1 gs1 acc hz hg1 hy
    have := clGo_fold (σ := List D) (gs := gs1) (g := g1) (c := c1) (f := addEl e st.length) (δ := wipeD δ1 vs1) (R := fun acc => st ++ [.lst acc]) (P := fun ys acc => (∀ y ∈ ys, y ∈ G x) ∧ acc.length + ys.length ≤ sizeLine) (nxt := fun acc y => acc ++ [F x y]) (G x) acc ⟨fun _ h => h, hz⟩ (fun _ => gok_app hg1) fun y ys acc hp => by
      obtain ⟨h1, h2⟩ := hp
      obtain ⟨δ2, e1, e2, e3⟩ := hy y (h1 y (List.mem_cons_self ..)) acc
      rw [List.length_cons] at h2
      refine ⟨⟨fun z hz => h1 z (List.mem_cons_of_mem _ hz), by rw [List.length_append]; simp; omega⟩, δ2, e1, .inl ⟨e2, ?_⟩⟩
      unfold addEl
      rw [e3]
      simp only [at_len, List.getElem?_cons_zero, set_len, List.set_cons_zero]
      rw [if_pos (show acc.length < sizeLine by omega)]
    rw [this, foldl_app (fun y => [F x y])]
    have : ∀ ys : List D, (ys.map fun y => [F x y]).flatten = ys.map (F x) := by
      intro ys
      induction ys with
      | nil => rfl
      | cons y ys ih => rw [List.map_cons, List.flatten_cons, ih]; rfl
    rw [this]
  have := clGo_fold (σ := List D) (gs := it.gs) (g := g) (c := c) (f := clIn im1 g1 c1 (addEl e st.length) vs1) (δ := wipeD δ vs) (R := fun acc => st ++ [.lst acc]) (P := fun xs acc => (∀ x ∈ xs, x ∈ it.xs) ∧ acc.length + (xs.flatMap fun x => (G x).map (F x)).length ≤ sizeLine) (nxt := fun acc x => acc ++ (G x).map (F x)) it.xs [] ⟨fun _ h => h, by simpa using hl⟩ (fun _ => gok_app hg) fun x xs acc hp => by
    obtain ⟨h1, h2⟩ := hp
    obtain ⟨δ1, gs1, e1, e2, e3, e4, e5⟩ := hx x (h1 x (List.mem_cons_self ..)) acc
    rw [List.flatMap_cons, List.length_append, List.length_map] at h2
    refine ⟨⟨fun z hz => h1 z (List.mem_cons_of_mem _ hz), by rw [List.length_append, List.length_map]; omega⟩, δ1, e1, .inl ⟨e2, ?_⟩⟩
    unfold clIn
    rw [e3]
    simp only
    exact inner x (h1 x (List.mem_cons_self ..)) δ1 gs1 acc (by omega) e4 e5
  rw [this, foldl_app (fun x => (G x).map (F x))]
  simp [List.flatMap]
theorem F_are_steps_eq {b : Nat} {steps : List (List Nat)} {marks : List Nat} {st : Store} (g : Good b steps marks) : F_are_steps [eS steps, eN b, .int 60] st = .ok (.bl true) st := by
  have h60 := g.n60
  have hpos := g.v.pos
  have hi : ∀ d3 d4 d5, seqI (varM 0) [some (eS steps), some (eN b), some (.int 60), d3, d4, d5] st = .ok ⟨steps.map eL, []⟩ st := by intro d3 d4 d5; simp [seqI]
  have e1 := allLc (g := nameG 3) (c := yesB) (e := andM (isiM "tuple" (varM 3)) (eqM (blM lenV (consM (varM 3) nilM)) (varM 1))) (vs := [3]) (hi none none none) (fun _ => true) gok_nil (by rw [sizeLine_eq]; simp; omega) (fun x hx acc => by
    obtain ⟨row, hr, rfl⟩ := List.mem_map.mp hx
    refine ⟨_, rfl, rfl, ?_⟩
    have hw := g.wide row hr
    simp [wipeD, hw])
  have e2 : gcM (blM allV (consM (lc2M (seqI (varM 0)) (nameG 3) yesB (seqI (varM 3)) (nameG 5) yesB (andM (isiM "int" (varM 5)) (andM (notM (isiM "bool" (varM 5))) (chainM leF ltF (conM (.int 0)) (varM 5) (varM 4)))) [3, 5] [5]) nilM)) [some (eS steps), some (eN b), some (.int 60), none, some (eN steps.length), none] st = .ok (.bl true) st := by
    have ht : ((steps.map eL).flatMap fun x => (match x with
      | .tup ds => ds
      | _ => []).map (fun _ => D.bl true)).length ≤ sizeLine := by
      have : ∀ ss : List (List Nat), (∀ r ∈ ss, r.length = b) → ((ss.map eL).flatMap fun x => (match x with
        | .tup ds => ds
        | _ => []).map (fun _ => D.bl true)).length = ss.length * b := by
        intro ss
        induction ss with
        | nil => intro _; simp
        | cons r ss ih =>
          intro h
          rw [List.map_cons, List.flatMap_cons, List.length_append, ih fun q hq => h q (List.mem_cons_of_mem _ hq)]
          simp [h r (List.mem_cons_self ..), Nat.add_mul, Nat.add_comm]
      rw [this steps g.wide, sizeLine_eq]
      have := g.b16
      have : steps.length * b ≤ 60 * 16 := Nat.mul_le_mul h60 this
      omega
    have q := lc2M_map (im1 := seqI (varM 3)) (g := nameG 3) (g1 := nameG 5) (c := yesB) (c1 := yesB) (e := andM (isiM "int" (varM 5)) (andM (notM (isiM "bool" (varM 5))) (chainM leF ltF (conM (.int 0)) (varM 5) (varM 4)))) (vs := [3, 5]) (vs1 := [5]) (hi none (some (eN steps.length)) none) (fun x => match x with
      | .tup ds => ds
      | _ => []) (fun _ _ => .bl true) gok_nil ht (fun x hx acc => by
        obtain ⟨row, hr, rfl⟩ := List.mem_map.mp hx
        refine ⟨_, [], rfl, rfl, by simp [seqI, wipeD], gok_nil, fun y hy acc2 => ?_⟩
        obtain ⟨n, hn, rfl⟩ := List.mem_map.mp hy
        refine ⟨_, rfl, rfl, ?_⟩
        have := g.v.lt row hr n hn
        simp [wipeD, this])
    generalize hfl : ((steps.map eL).flatMap fun x => (match x with
      | .tup ds => ds
      | _ => []).map (fun _ => D.bl true)) = fl at q ht
    have hb : ∀ d ∈ fl, d = .bl true := by
      intro d hd
      rw [← hfl] at hd
      obtain ⟨x, _, hx⟩ := List.mem_flatMap.mp hd
      obtain ⟨y, _, rfl⟩ := List.mem_map.mp hx
      rfl
    have hbls : ∃ bs, blsOf fl = some bs ∧ bs.all id = true := by
      clear hfl q ht
      induction fl with
      | nil => exact ⟨[], rfl, rfl⟩
      | cons d fl ih =>
        obtain ⟨bs, h1, h2⟩ := ih fun x hx => hb x (List.mem_cons_of_mem _ hx)
        have := hb d (List.mem_cons_self ..)
        subst this
        exact ⟨true :: bs, by simp [blsOf, h1], by simpa using h2⟩
    obtain ⟨bs, h1, h2⟩ := hbls
    refine gcM_eq (r := .ok (.bl true) (st ++ [.lst fl])) ?_ (gc_val lows_bl)
    simp only [blM, consM, nilM, q, Res.bind_ok, allV, at_len, List.getElem?_cons_zero, h1, h2]
  have hall : (steps.map eL).all (fun _ => true) = true := by simp
  rw [hall] at e1
  have h1 : (1 : Int) ≤ steps.length := by omega
  have h2 : (steps.length : Int) ≤ 60 := by omega
  have body : m_are_steps ([eS steps, eN b, .int 60].map some ++ List.replicate 3 none) st = .ok (.rt (.bl true)) [some (eS steps), some (eN b), some (.int 60), none, some (eN steps.length), none] st := by
    unfold m_are_steps
    have a1 : ifS (orB (notB (asB (isiM "tuple" (varM 0)))) (notB (asB (chainM leF leF (conM (.int 1)) (blM lenV (consM (varM 0) nilM)) (varM 2))))) (retS (conM (.bl false))) skipS [some (eS steps), some (eN b), some (.int 60), none, none, none] st = .ok .nx [some (eS steps), some (eN b), some (.int 60), none, none, none] st := by
      simp [h1, h2]
    have a2 : ifS (notB (asB (gcM (blM allV (consM (lcM (seqI (varM 0)) (nameG 3) yesB (andM (isiM "tuple" (varM 3)) (eqM (blM lenV (consM (varM 3) nilM)) (varM 1))) [3]) nilM))))) (retS (conM (.bl false))) skipS [some (eS steps), some (eN b), some (.int 60), none, none, none] st = .ok .nx [some (eS steps), some (eN b), some (.int 60), none, none, none] st := by
      simp only [ifS, notB, asB, e1, Res.bind_ok, Bool.not_true, bindE_ok, Bool.false_eq_true, if_false, skipS]
    exact (seq_nx a1).trans <| (seq_nx a2).trans <| (seq_nx (set_nx (d := eN steps.length) (st1 := st) (by simp))).trans (ret_nx e2)
  unfold F_are_steps gcF
  rw [run_rt (N := 6) (ds := [eS steps, eN b, .int 60]) body]
  exact gc_id lows_bl
end Fx
namespace Fx
open PySem PySem.Spec PyProof.Rows L2
/-! ### is_row, check_row, least_row -/
noncomputable abbrev ifA : SM := ifS (orB (notB (asB (isiM "tuple" (varM 0)))) (orB (asB (neM (blM lenV (consM (varM 0) nilM)) (conM (.int 3)))) (notB (asB (callM 1 (F_is_base) (consM (ixM (varM 0) (conM (.int 0))) nilM)))))) (retS (conM (.bl false))) skipS
abbrev asA : SM := asgS (varM 0) (tupG 3 (consG (nameG 1) (consG (nameG 2) (consG (nameG 3) nilG))))
noncomputable abbrev ifB : SM := ifS (orB (notB (asB (callM 3 (F_are_steps) (consM (varM 2) (consM (varM 1) (consM (conM (.int 60)) nilM)))))) (orB (notB (asB (isiM "tuple" (varM 3)))) (asB (neM (blM lenV (consM (varM 3) nilM)) (blM lenV (consM (varM 2) nilM)))))) (retS (conM (.bl false))) skipS
noncomputable abbrev reA : SM := retS (andM (gcM (blM allV (consM (lcM (seqI (varM 3)) (nameG 4) yesB (callM 1 (F_is_letter) (consM (varM 4) nilM)) [4]) nilM))) (callM 2 (F_is_proof) (consM (varM 2) (consM (varM 3) nilM))))
theorem m_is_row_eq : m_is_row = seqS ifA (seqS asA (seqS ifB reA)) := rfl
theorem letters_all {b : Nat} {S : D} {x0 : Option D} {ls : List Nat} {st : Store} (hl : ls.length ≤ 1000) :
    gcM (blM allV (consM (lcM (seqI (varM 3)) (nameG 4) yesB (callM 1 (F_is_letter) (consM (varM 4) nilM)) [4]) nilM)) [x0, some (eN b), some S, some (eL ls), none] st = .ok (.bl (ls.all fun n => decide (n ≤ 9))) st := by
  have hi : seqI (varM 3) [x0, some (eN b), some S, some (eL ls), none] st = .ok ⟨ls.map eN, []⟩ st := by simp [seqI]
  rw [allLc hi (fun d => match d with
    | .int i => decide (i ≤ 9)
    | _ => false) gok_nil (by rw [sizeLine_eq]; simp; omega) (fun x hx acc => by
      obtain ⟨n, hn, rfl⟩ := List.mem_map.mp hx
      exact ⟨_, rfl, rfl, by simp [wipeD, F_is_letter_int]⟩)]
  congr 2
  simp only [List.all_map]
  congr 1
  funext n
  simp only [Function.comp_apply]
  exact decide_eq_decide.mpr (by omega)
theorem ifA_ok {b : Nat} {d1 d2 : D} {r1 r2 r3 r4 : Option D} {st : Store} (h1 : 2 ≤ b) (h2 : b ≤ 16) : ifA [some (.tup [eN b, d1, d2]), r1, r2, r3, r4] st = .ok .nx [some (.tup [eN b, d1, d2]), r1, r2, r3, r4] st := by
  have h1' : (2 : Int) ≤ b := by omega
  have h2' : (b : Int) ≤ 16 := by omega
  simp [F_is_base_int, h1', h2']
theorem asA_ok {a b c : D} {r1 r2 r3 r4 : Option D} {st : Store} : asA [some (.tup [a, b, c]), r1, r2, r3, r4] st = .ok .nx [some (.tup [a, b, c]), some a, some b, some c, r4] st := by simp
theorem F_is_row_good {b : Nat} {steps : List (List Nat)} {marks : List Nat} {st : Store} (g : Good b steps marks) : F_is_row [eR b steps marks] st = .ok (.bl true) st := by
  have e3 : ifB [some (eR b steps marks), some (eN b), some (eS steps), some (eL marks), none] st = .ok .nx [some (eR b steps marks), some (eN b), some (eS steps), some (eL marks), none] st := by
    have := F_are_steps_eq (st := st) g
    have hml := g.ml
    have a1 : callM 3 F_are_steps (consM (varM 2) (consM (varM 1) (consM (conM (.int 60)) nilM))) [some (eR b steps marks), some (eN b), some (eS steps), some (eL marks), none] st = .ok (.bl true) st := by
      have : callM 3 F_are_steps (consM (varM 2) (consM (varM 1) (consM (conM (.int 60)) nilM))) [some (eR b steps marks), some (eN b), some (eS steps), some (eL marks), none] st = F_are_steps [eS steps, eN b, .int 60] st := by simp
      rw [this, F_are_steps_eq g]
    simp only [ifS, orB, notB, asB, a1, Res.bind_ok, Bool.not_true, Bool.false_eq_true, if_false]
    simp [hml]
  have hall : (marks.all fun n => decide (n ≤ 9)) = true := by
    rw [List.all_eq_true]
    intro n hn
    have := g.m10 n hn
    exact decide_eq_true (by omega)
  have e4 := letters_all (b := b) (S := eS steps) (x0 := some (eR b steps marks)) (ls := marks) (st := st) (by have := g.ml; have := g.n60; omega)
  rw [hall] at e4
  have e5 : callM 2 (F_is_proof) (consM (varM 2) (consM (varM 3) nilM)) [some (eR b steps marks), some (eN b), some (eS steps), some (eL marks), none] st = .ok (.bl true) st := by
    have : callM 2 (F_is_proof) (consM (varM 2) (consM (varM 3) nilM)) [some (eR b steps marks), some (eN b), some (eS steps), some (eL marks), none] st = F_is_proof [eS steps, eL marks] st := by simp
    rw [this, F_is_proof_eq g]
  have e6 : (andM (gcM (blM allV (consM (lcM (seqI (varM 3)) (nameG 4) yesB (callM 1 (F_is_letter) (consM (varM 4) nilM)) [4]) nilM))) (callM 2 (F_is_proof) (consM (varM 2) (consM (varM 3) nilM)))) [some (eR b steps marks), some (eN b), some (eS steps), some (eL marks), none] st = .ok (.bl true) st := by
    unfold andM
    rw [e4]
    simp only [Res.bind_ok]
    exact e5
  unfold F_is_row gcF
  rw [m_is_row_eq, run_rt (N := 5) (ds := [eR b steps marks]) ((seq_nx (ifA_ok g.b2 g.b16)).trans <| (seq_nx asA_ok).trans <| (seq_nx e3).trans (ret_nx e6))]
  exact gc_id lows_bl
/-- what is no row -/
theorem if_rt {c : BM} {m : EM} {b : SM} {δ : En} {st : Store} {d : D} (h : c δ st = .ok true st) (hm : m δ st = .ok d st) : ifS c (retS m) b δ st = .ok (.rt d) δ st := by
  unfold ifS
  rw [h]
  simp only [bindE_ok, if_true]
  exact ret_nx hm
theorem seq_rt {a b : SM} {δ δ1 : En} {st st1 : Store} {d : D} (h : a δ st = .ok (.rt d) δ1 st1) : seqS a b δ st = .ok (.rt d) δ1 st1 := by unfold seqS; rw [h]; rfl
theorem F_is_row_pair {a b : D} {st : Store} : F_is_row [.tup [a, b]] st = .ok (.bl false) st := by
  unfold F_is_row gcF
  rw [m_is_row_eq, run_rt (N := 5) (ds := [.tup [a, b]]) (seq_rt (d := .bl false) (if_rt (by simp) rfl))]
  exact gc_id lows_bl
theorem F_is_row_list {l : Nat} {xs : List D} {st : Store} (h : st[l]? = some (.lst xs)) : F_is_row [.loc l] st = .ok (.bl false) st := by
  unfold F_is_row gcF
  rw [m_is_row_eq, run_rt (N := 5) (ds := [.loc l]) (seq_rt (d := .bl false) (if_rt (by simp [h]) rfl))]
  exact gc_id lows_bl
theorem F_is_row_base {a b : D} {st : Store} : F_is_row [.tup [.int 1, a, b]] st = .ok (.bl false) st := by
  unfold F_is_row gcF
  rw [m_is_row_eq, run_rt (N := 5) (ds := [.tup [.int 1, a, b]]) (seq_rt (d := .bl false) (if_rt (by simp [F_is_base_int]) rfl))]
  exact gc_id lows_bl
theorem F_is_row_long {b : Nat} {steps : List (List Nat)} {marks ls : List Nat} {st : Store} (g : Good b steps marks) (hl : ls.length ≠ steps.length) : F_is_row [.tup [eN b, eS steps, eL ls]] st = .ok (.bl false) st := by
  have a1 : callM 3 F_are_steps (consM (varM 2) (consM (varM 1) (consM (conM (.int 60)) nilM))) [some (.tup [eN b, eS steps, eL ls]), some (eN b), some (eS steps), some (eL ls), none] st = .ok (.bl true) st := by
    have : callM 3 F_are_steps (consM (varM 2) (consM (varM 1) (consM (conM (.int 60)) nilM))) [some (.tup [eN b, eS steps, eL ls]), some (eN b), some (eS steps), some (eL ls), none] st = F_are_steps [eS steps, eN b, .int 60] st := by simp
    rw [this, F_are_steps_eq g]
  have e3 : ifB [some (.tup [eN b, eS steps, eL ls]), some (eN b), some (eS steps), some (eL ls), none] st = .ok (.rt (.bl false)) [some (.tup [eN b, eS steps, eL ls]), some (eN b), some (eS steps), some (eL ls), none] st := by
    refine if_rt ?_ rfl
    simp only [orB, notB, asB, a1, Res.bind_ok, Bool.not_true, Bool.false_eq_true, if_false]
    have hl2 : ¬ (ls.length : Int) = steps.length := by omega
    simp [hl2, hl]
  unfold F_is_row gcF
  rw [m_is_row_eq, run_rt (N := 5) (ds := [.tup [eN b, eS steps, eL ls]]) ((seq_nx (ifA_ok g.b2 g.b16)).trans <| (seq_nx asA_ok).trans (seq_rt e3))]
  exact gc_id lows_bl
theorem F_is_row_letters {b : Nat} {steps : List (List Nat)} {marks ls : List Nat} {st : Store} (g : Good b steps marks) (hl : ls.length = steps.length) (h10 : 10 ∈ ls) : F_is_row [.tup [eN b, eS steps, eL ls]] st = .ok (.bl false) st := by
  have a1 : callM 3 F_are_steps (consM (varM 2) (consM (varM 1) (consM (conM (.int 60)) nilM))) [some (.tup [eN b, eS steps, eL ls]), some (eN b), some (eS steps), some (eL ls), none] st = .ok (.bl true) st := by
    have : callM 3 F_are_steps (consM (varM 2) (consM (varM 1) (consM (conM (.int 60)) nilM))) [some (.tup [eN b, eS steps, eL ls]), some (eN b), some (eS steps), some (eL ls), none] st = F_are_steps [eS steps, eN b, .int 60] st := by simp
    rw [this, F_are_steps_eq g]
  have e3 : ifB [some (.tup [eN b, eS steps, eL ls]), some (eN b), some (eS steps), some (eL ls), none] st = .ok .nx [some (.tup [eN b, eS steps, eL ls]), some (eN b), some (eS steps), some (eL ls), none] st := by
    simp only [ifS, orB, notB, asB, a1, Res.bind_ok, Bool.not_true, Bool.false_eq_true, if_false]
    simp [hl]
  have hall : (ls.all fun n => decide (n ≤ 9)) = false := by
    rw [List.all_eq_false]
    exact ⟨10, h10, by decide⟩
  have e4 := letters_all (b := b) (S := eS steps) (x0 := some (.tup [eN b, eS steps, eL ls])) (ls := ls) (st := st) (by have := g.n60; omega)
  rw [hall] at e4
  have e6 : (andM (gcM (blM allV (consM (lcM (seqI (varM 3)) (nameG 4) yesB (callM 1 (F_is_letter) (consM (varM 4) nilM)) [4]) nilM))) (callM 2 (F_is_proof) (consM (varM 2) (consM (varM 3) nilM)))) [some (.tup [eN b, eS steps, eL ls]), some (eN b), some (eS steps), some (eL ls), none] st = .ok (.bl false) st := by
    unfold andM
    rw [e4]
    rfl
  unfold F_is_row gcF
  rw [m_is_row_eq, run_rt (N := 5) (ds := [.tup [eN b, eS steps, eL ls]]) ((seq_nx (ifA_ok g.b2 g.b16)).trans <| (seq_nx asA_ok).trans <| (seq_nx e3).trans (ret_nx e6))]
  exact gc_id lows_bl
theorem F_check_good {d : D} {st : Store} (h : F_is_row [d] st = .ok (.bl true) st) : F_check_row [d] st = .ok .non st := by
  have e : m_check_row [some d] st = .ok .nx [some d] st := by
    unfold m_check_row
    simp [h]
  unfold F_check_row gcF
  have : runF 1 m_check_row [d] st = .ok .non st := by unfold runF; show (match m_check_row [some d] st with | .ok (.rt d) _ st => Res.ok d st | .ok .nx _ st => .ok .non st | .err C fs _ st => .err C fs st | _ => .stuck) = _; rw [e]
  rw [this]
  exact gc_id lows_non
theorem F_check_bad {d : D} {st : Store} (h : F_is_row [d] st = .ok (.bl false) st) : F_check_row [d] st = .err "NoRow" [] st := by
  have e : m_check_row [some d] st = .err "NoRow" [] [some d] st := by
    unfold m_check_row
    simp [h]
  unfold F_check_row gcF
  have : runF 1 m_check_row [d] st = .err "NoRow" [] st := by unfold runF; show (match m_check_row [some d] st with | .ok (.rt d) _ st => Res.ok d st | .ok .nx _ st => .ok .non st | .err C fs _ st => .err C fs st | _ => .stuck) = _; rw [e]
  rw [this]
  exact gc_err0
theorem F_least_row_eq {b : Nat} {steps : List (List Nat)} {marks : List Nat} {st : Store} (g : Good b steps marks) : F_least_row [eR b steps marks] st = .ok (leastR b steps marks) st := by
  have h1 := F_check_good (F_is_row_good (st := st) g)
  have h2 := F_raw_least_eq (st := st) g
  have e : m_least_row [some (eR b steps marks)] st = .ok (.rt (leastR b steps marks)) [some (eR b steps marks)] st := by
    unfold m_least_row
    have a1 : exprS (callM 1 (F_check_row) (consM (varM 0) nilM)) [some (eR b steps marks)] st = .ok .nx [some (eR b steps marks)] st := by simp [h1]
    exact (seq_nx a1).trans (ret_nx (by simp [h2]))
  unfold F_least_row gcF
  rw [run_rt (N := 1) (ds := [eR b steps marks]) e]
  exact gc_id (eR_lows _ _ _)
end Fx
namespace Fx
/-! ### what a state does on a word -/
abbrev dl (S : List (List Nat)) (s f : Nat) : Nat := (S.getD s []).getD f 0
def runW (S : List (List Nat)) (s : Nat) (w : List Nat) : Nat := w.foldl (fun s f => dl S s f) s
def beh (S : List (List Nat)) (M : List Nat) (s : Nat) (w : List Nat) : Nat := M.getD (runW S s w) 0
theorem beh_cons (S : List (List Nat)) (M : List Nat) (s f : Nat) (w : List Nat) : beh S M s (f :: w) = beh S M (dl S s f) w := rfl
def Over (b : Nat) (w : List Nat) : Prop := ∀ f ∈ w, f < b
structure Mach (b n : Nat) (S : List (List Nat)) (M : List Nat) : Prop where
  ls : S.length = n
  lm : M.length = n
  wide : ∀ r ∈ S, r.length = b
  lt : ∀ r ∈ S, ∀ g ∈ r, g < n
theorem getD_lt {α : Type} {l : List α} {i : Nat} {d : α} (h : i < l.length) : l.getD i d = l[i] := by simp [h]
theorem Mach.row {b n : Nat} {S : List (List Nat)} {M : List Nat} (m : Mach b n S M) {s : Nat} (h : s < n) : (S.getD s []) ∈ S := by
  rw [getD_lt (by rw [m.ls]; exact h)]; exact List.getElem_mem _
theorem Mach.rl {b n : Nat} {S : List (List Nat)} {M : List Nat} (m : Mach b n S M) {s : Nat} (h : s < n) : (S.getD s []).length = b := m.wide _ (m.row h)
theorem Mach.dl {b n : Nat} {S : List (List Nat)} {M : List Nat} (m : Mach b n S M) {s f : Nat} (h : s < n) (hf : f < b) : dl S s f < n := by
  unfold Fx.dl
  have := m.rl h
  rw [getD_lt (l := S.getD s []) (by rw [this]; exact hf)]
  exact m.lt _ (m.row h) _ (List.getElem_mem _)
/-- a map that keeps steps and marks keeps what is done on words -/
theorem beh_map {b n : Nat} {S S' : List (List Nat)} {M M' : List Nat} (m : Mach b n S M) (h : Nat → Nat) (hM : ∀ s, s < n → M'.getD (h s) 0 = M.getD s 0) (hS : ∀ s f, s < n → f < b → dl S' (h s) f = h (dl S s f)) :
    ∀ (w : List Nat) (s : Nat), s < n → Over b w → beh S' M' (h s) w = beh S M s w
  | [], s, hs, _ => hM s hs
  | f :: w, s, hs, hw => by
    have hf : f < b := hw f (List.mem_cons_self ..)
    rw [beh_cons, beh_cons, hS s f hs hf]
    exact beh_map m h hM hS w _ (m.dl hs hf) fun g hg => hw g (List.mem_cons_of_mem _ hg)
/-! ### counting -/
section
variable {κ κ' : Type} [DecidableEq κ] [DecidableEq κ']
theorem nodup_sub_len {α : Type} [DecidableEq α] : ∀ {l m : List α}, l.Nodup → (∀ x ∈ l, x ∈ m) → l.length ≤ m.length
  | [], _, _, _ => Nat.zero_le _
  | x :: l, m, h, hm => by
    have hn := List.nodup_cons.mp h
    have hx := hm x (List.mem_cons_self ..)
    have := nodup_sub_len (l := l) (m := m.erase x) hn.2 fun y hy => (List.mem_erase_of_ne (fun e => hn.1 (by rw [← e]; exact hy))).mpr (hm y (List.mem_cons_of_mem _ hy))
    rw [List.length_erase_of_mem hx] at this
    have := List.length_pos_of_mem hx
    simp only [List.length_cons]
    omega
theorem idxOf_getElem? {l : List κ} {x : κ} (h : x ∈ l) : l[l.idxOf x]? = some x := by simp [List.getElem?_eq_getElem (List.idxOf_lt_length_of_mem h)]
/-- a finer list with no more values is no finer -/
theorem refine_eq {n : Nat} {X : List κ} {Y : List κ'} (hX : X.length = n) (hY : Y.length = n) (href : ∀ i j, i < n → j < n → Y[i]? = Y[j]? → X[i]? = X[j]?) (hc : cnt Y ≤ cnt X) :
    ∀ i j, i < n → j < n → X[i]? = X[j]? → Y[i]? = Y[j]? := by
  intro i j hi hj hx
  apply Classical.byContradiction
  intro hne
  have yi : Y[i]? = some Y[i] := by simp [hY, hi]
  have yj : Y[j]? = some Y[j] := by simp [hY, hj]
  have xi : X[i]? = some X[i] := by simp [hX, hi]
  have hne' : Y[i] ≠ Y[j] := fun e => hne (by rw [yi, yj, e])
  have sub : ∀ x ∈ dedF [] X, x ∈ ((dedF [] Y).erase Y[j]).map fun y => X.getD (Y.idxOf y) X[i] := by
    intro x hx1
    have hx2 : x ∈ X := by simpa using (dedF_mem X []).mp hx1
    obtain ⟨k, hk, rfl⟩ := List.mem_iff_getElem.mp hx2
    have hk' : k < n := by omega
    rw [List.mem_map]
    by_cases hyk : Y[k]'(by omega) = Y[j]
    · refine ⟨Y[i], (List.mem_erase_of_ne hne').mpr (dedF_self _ _ (List.getElem_mem _)), ?_⟩
      have m1 : Y[i] ∈ Y := List.getElem_mem _
      have e1 := idxOf_getElem? m1
      have l1 : Y.idxOf Y[i] < n := by have := List.idxOf_lt_length_of_mem m1; omega
      have e2 := href _ i l1 hi (e1.trans yi.symm)
      have e3 : X[k]? = X[j]? := href k j hk' hj (by rw [yj, ← hyk]; simp [hY, hk'])
      have e4 : X[k]? = some X[k] := by simp [hk]
      rw [List.getD_eq_getElem?_getD, e2, hx, ← e3, e4]
      rfl
    · have m1 : Y[k]'(by omega) ∈ Y := List.getElem_mem _
      refine ⟨Y[k]'(by omega), (List.mem_erase_of_ne hyk).mpr (dedF_self _ _ m1), ?_⟩
      have e1 := idxOf_getElem? m1
      have l1 : Y.idxOf (Y[k]'(by omega)) < n := by have := List.idxOf_lt_length_of_mem m1; omega
      have e2 := href _ k l1 hk' (e1.trans (by simp [hY, hk']))
      have e4 : X[k]? = some X[k] := by simp [hk]
      rw [List.getD_eq_getElem?_getD, e2, e4]
      rfl
  have l := nodup_sub_len (dedF_nodup X [] (by simp)) sub
  have hj2 : Y[j] ∈ dedF [] Y := dedF_self _ _ (List.getElem_mem _)
  rw [List.length_map, List.length_erase_of_mem hj2] at l
  have := List.length_pos_of_mem hj2
  unfold cnt at hc
  omega
theorem numF_ker {X : List κ} {i j : Nat} (hi : i < X.length) (hj : j < X.length) : (numF X)[i]? = (numF X)[j]? ↔ X[i]? = X[j]? := by
  have a : (numF X)[i]? = some ((dedF [] X).idxOf X[i]) := by simp [numF, hi]
  have b : (numF X)[j]? = some ((dedF [] X).idxOf X[j]) := by simp [numF, hj]
  have a' : X[i]? = some X[i] := by simp [hi]
  have b' : X[j]? = some X[j] := by simp [hj]
  rw [a, b, a', b']
  constructor
  · intro h
    have := idxOf_inj (dedF_self X _ (List.getElem_mem _)) (dedF_self X _ (List.getElem_mem _)) (Option.some.inj h)
    rw [this]
  · intro h
    rw [Option.some.inj h]
/-- lists that tell the same places apart have as many values -/
theorem cnt_le_of {n : Nat} {X : List κ} {Y : List κ'} (hX : X.length = n) (hY : Y.length = n) (href : ∀ i j, i < n → j < n → Y[i]? = Y[j]? → X[i]? = X[j]?) : cnt X ≤ cnt Y := by
  by_cases hn : n = 0
  · subst hn
    have := List.length_eq_zero_iff.mp hX
    subst this
    simp [cnt, dedF]
  · have sub : ∀ x ∈ dedF [] X, x ∈ (dedF [] Y).map fun y => X.getD (Y.idxOf y) (X[0]'(by omega)) := by
      intro x hx1
      have hx2 : x ∈ X := by simpa using (dedF_mem X []).mp hx1
      obtain ⟨k, hk, rfl⟩ := List.mem_iff_getElem.mp hx2
      have hk' : k < n := by omega
      rw [List.mem_map]
      have m1 : Y[k]'(by omega) ∈ Y := List.getElem_mem _
      refine ⟨Y[k]'(by omega), dedF_self _ _ m1, ?_⟩
      have e1 := idxOf_getElem? m1
      have l1 : Y.idxOf (Y[k]'(by omega)) < n := by have := List.idxOf_lt_length_of_mem m1; omega
      have e2 := href _ k l1 hk' (e1.trans (by simp [hY, hk']))
      have e4 : X[k]? = some X[k] := by simp [hk]
      rw [List.getD_eq_getElem?_getD, e2, e4]
      rfl
    have l := nodup_sub_len (dedF_nodup X [] (by simp)) sub
    rw [List.length_map] at l
    exact l
end
end Fx
namespace Fx
/-! ### classes: they are told apart by words, and steps keep them -/
structure ClsOk (b n : Nat) (S : List (List Nat)) (M : List Nat) (f : List Nat) : Prop where
  len : f.length = n
  told : ∀ s t, s < n → t < n → f[s]? ≠ f[t]? → ∃ w, Over b w ∧ beh S M s w ≠ beh S M t w
  mark : ∀ s t, s < n → t < n → f[s]? = f[t]? → M.getD s 0 = M.getD t 0
def Cong (b n : Nat) (S : List (List Nat)) (f : List Nat) : Prop := ∀ s t, s < n → t < n → f[s]? = f[t]? → ∀ i, i < b → f[dl S s i]? = f[dl S t i]?
theorem toldF_at {S : List (List Nat)} {f : List Nat} {s : Nat} (h : s < S.length) : (toldF S f)[s]? = some (f.getD s 0 :: (S.getD s []).map fun g => f.getD g 0) := by
  unfold toldF
  simp [h]
theorem getD_of {l : List Nat} {i : Nat} (h : i < l.length) : l[i]? = some (l.getD i 0) := by simp [h]
theorem told_eq {b n : Nat} {S : List (List Nat)} {M f : List Nat} (m : Mach b n S M) (hf : f.length = n) {s t : Nat} (hs : s < n) (ht : t < n) :
    (toldF S f)[s]? = (toldF S f)[t]? ↔ f[s]? = f[t]? ∧ ∀ i, i < b → f[dl S s i]? = f[dl S t i]? := by
  rw [toldF_at (by rw [m.ls]; exact hs), toldF_at (by rw [m.ls]; exact ht), Option.some.injEq, List.cons.injEq, getD_of (l := f) (by omega), getD_of (l := f) (i := t) (by omega), Option.some.injEq]
  refine and_congr_right fun _ => ?_
  have l1 := m.rl hs
  have l2 := m.rl ht
  constructor
  · intro h i hi
    have d1 := m.dl hs hi
    have d2 := m.dl ht hi
    rw [getD_of (l := f) (by omega), getD_of (l := f) (i := dl S t i) (by omega)]
    have := congrArg (fun l => l[i]?) h
    simp only [List.getElem?_map] at this
    rw [getD_of (l := S.getD s []) (by omega), getD_of (l := S.getD t []) (by omega)] at this
    simpa using this
  · intro h
    apply List.ext_getElem (by rw [List.length_map, List.length_map, l1, l2])
    intro i h1 h2
    simp only [List.length_map] at h1 h2
    have d1 := m.dl hs (show i < b by omega)
    have d2 := m.dl ht (show i < b by omega)
    have := h i (by omega)
    rw [getD_of (l := f) (by omega), getD_of (l := f) (i := dl S t i) (by omega), Option.some.injEq] at this
    simp only [List.getElem_map]
    unfold dl at this
    rw [getD_lt (l := S.getD s []) h1, getD_lt (l := S.getD t []) h2] at this
    exact this
theorem clsF_ok {b n : Nat} {S : List (List Nat)} {M : List Nat} (m : Mach b n S M) : ∀ (k : Nat) (f : List Nat) (many c : Nat), c = cnt f → 0 < c → ClsOk b n S M f →
    (many = 0 ∨ ∃ g : List Nat, g.length = n ∧ many = cnt g ∧ ∀ s t, s < n → t < n → (f[s]? = f[t]? ↔ (toldF S g)[s]? = (toldF S g)[t]?)) → n - many < k → ClsOk b n S M (clsF S k f many c) ∧ Cong b n S (clsF S k f many c)
  | 0, _, _, _, _, _, _, _, h => absurd h (by omega)
  | k + 1, f, many, c, hc, hc0, ok, hp, hk => by
    unfold clsF
    have tl : (toldF S f).length = n := by rw [toldF_len, m.ls]
    have cn : c ≤ n := by rw [hc]; have := dedF_len f []; simp at this; rw [ok.len] at this; exact this
    split
    · rename_i hlt
      refine clsF_ok m k _ _ _ (cnt_numF _).symm ?_ ⟨by rw [numF_len, tl], fun s t hs ht hne => ?_, fun s t hs ht he => ?_⟩ (.inr ⟨f, ok.len, hc, fun s t hs ht => numF_ker (by omega) (by omega)⟩) (by omega)
      · exact cnt_pos (by rw [tl]; omega)
      · have hne2 : ¬ (toldF S f)[s]? = (toldF S f)[t]? := fun e => hne ((numF_ker (by omega) (by omega)).mpr e)
        rw [told_eq m ok.len hs ht] at hne2
        by_cases h1 : f[s]? = f[t]?
        · have : ∃ i, i < b ∧ f[dl S s i]? ≠ f[dl S t i]? := by
            apply Classical.byContradiction
            intro h
            exact hne2 ⟨h1, fun i hi => Classical.byContradiction fun q => h ⟨i, hi, q⟩⟩
          obtain ⟨i, hi, q⟩ := this
          obtain ⟨w, hw, hb⟩ := ok.told _ _ (m.dl hs hi) (m.dl ht hi) q
          exact ⟨i :: w, fun g hg => by
            rcases List.mem_cons.mp hg with rfl | hg
            · exact hi
            · exact hw g hg, by rw [beh_cons, beh_cons]; exact hb⟩
        · exact ok.told s t hs ht h1
      · rw [numF_ker (by omega) (by omega), told_eq m ok.len hs ht] at he
        exact ok.mark s t hs ht he.1
    · rename_i hge
      refine ⟨ok, ?_⟩
      rcases hp with e | ⟨g, hg, e, hk2⟩
      · omega
      intro s t hs ht he i hi
      have fin : ∀ i j, i < n → j < n → g[i]? = g[j]? → f[i]? = f[j]? := refine_eq (X := g) (Y := f) hg ok.len (fun i j hi hj q => ((told_eq m hg hi hj).mp ((hk2 i j hi hj).mp q)).1) (by omega)
      exact fin _ _ (m.dl hs hi) (m.dl ht hi) (((told_eq m hg hs ht).mp ((hk2 s t hs ht).mp he)).2 i hi)
theorem classesF_ok {b n : Nat} {S : List (List Nat)} {M : List Nat} (m : Mach b n S M) (hn : 0 < n) : ClsOk b n S M (classesF S M) ∧ Cong b n S (classesF S M) := by
  unfold classesF
  rw [m.ls]
  rw [← cnt_numF M]
  refine clsF_ok m _ _ _ _ rfl ?_ ⟨by rw [numF_len, m.lm], fun s t hs ht hne => ⟨[], fun _ h => by simp at h, fun e => hne ?_⟩, fun s t hs ht he => ?_⟩ (.inl rfl) (by omega)
  · rw [cnt_numF]; exact cnt_pos (by rw [m.lm]; exact hn)
  · rw [numF_ker (by rw [m.lm]; exact hs) (by rw [m.lm]; exact ht), getD_of (by rw [m.lm]; exact hs), getD_of (by rw [m.lm]; exact ht)]
    exact congrArg some e
  · rw [numF_ker (by rw [m.lm]; exact hs) (by rw [m.lm]; exact ht), getD_of (by rw [m.lm]; exact hs), getD_of (i := t) (by rw [m.lm]; exact ht)] at he
    exact Option.some.inj he
/-- a stable mark-keeping numbering tells no more than words -/
theorem cong_beh {b n : Nat} {S : List (List Nat)} {M f : List Nat} (m : Mach b n S M) (hf : f.length = n) (hm : ∀ s t, s < n → t < n → f[s]? = f[t]? → M.getD s 0 = M.getD t 0) (hc : Cong b n S f) :
    ∀ (w : List Nat) (s t : Nat), s < n → t < n → f[s]? = f[t]? → Over b w → beh S M s w = beh S M t w
  | [], s, t, hs, ht, h, _ => hm s t hs ht h
  | i :: w, s, t, hs, ht, h, hw => by
    have hi : i < b := hw i (List.mem_cons_self ..)
    rw [beh_cons, beh_cons]
    exact cong_beh m hf hm hc w _ _ (m.dl hs hi) (m.dl ht hi) (hc s t hs ht h i hi) fun g hg => hw g (List.mem_cons_of_mem _ hg)
end Fx
namespace Fx
/-! ### the least form: no two states alike, reached in order, and least again -/
theorem range_idx {n g : Nat} (h : g < n) : (List.range n).idxOf g = g := by
  have := List.nodup_range (n := n)
  have e := this.idxOf_getElem g (by simpa using h)
  simpa using e
theorem addNew_eq (f goals : List Nat) : addNew f goals = dedF f goals := rfl
theorem bfs_succ (S : List (List Nat)) (k : Nat) (f : List Nat) (a : Nat) : bfs S (k + 1) f a = if h : a < f.length then bfs S k (addNew f (S.getD f[a] [])) (a + 1) else f := rfl
theorem bfs_len (S : List (List Nat)) : ∀ (k : Nat) (f : List Nat) (a : Nat), f.length ≤ (bfs S k f a).length
  | 0, _, _ => Nat.le_refl _
  | k + 1, f, a => by
    unfold bfs
    split
    · exact Nat.le_trans addNew_len (bfs_len S k _ _)
    · exact Nat.le_refl _
theorem bfs_up (S : List (List Nat)) : ∀ (k : Nat) (f : List Nat) (a : Nat), (bfs S k f a).length ≤ (bfs S (k + 1) f a).length
  | 0, f, a => bfs_len S 1 f a
  | k + 1, f, a => by
    rw [bfs, bfs]
    split
    · exact bfs_up S k _ _
    · exact Nat.le_refl _
theorem bfs_ups (S : List (List Nat)) (k : Nat) (f : List Nat) (a : Nat) : ∀ j, (bfs S k f a).length ≤ (bfs S (k + j) f a).length
  | 0 => Nat.le_refl _
  | j + 1 => Nat.le_trans (bfs_ups S k f a j) (bfs_up S (k + j) f a)
theorem bfs_end (S : List (List Nat)) : ∀ (k : Nat) (f : List Nat) (a : Nat), (bfs S k f a).length < a + k → bfs S (k + 1) f a = bfs S k f a
  | 0, f, a, h => by
    rw [bfs_succ]
    simp only [bfs] at h
    rw [dif_neg (by omega)]
    rfl
  | k + 1, f, a, h => by
    rw [bfs_succ S k] at h
    rw [bfs_succ S (k + 1), bfs_succ S k]
    by_cases h2 : a < f.length
    · rw [dif_pos h2] at h
      rw [dif_pos h2, dif_pos h2]
      exact bfs_end S k (addNew f (S.getD f[a] [])) (a + 1) (by omega)
    · rw [dif_neg h2, dif_neg h2]
theorem bfs_ends (S : List (List Nat)) (k : Nat) (f : List Nat) (a : Nat) (h : (bfs S k f a).length < a + k) : ∀ j, bfs S (k + j) f a = bfs S k f a
  | 0 => rfl
  | j + 1 => by
    have := bfs_ends S k f a h j
    rw [← Nat.add_assoc, bfs_end S (k + j) f a (by rw [this]; omega), this]
theorem ren_row {S : List (List Nat)} {order : List Nat} {x : Nat} (hx : x ∈ order) : (renS S order).getD (order.idxOf x) [] = (S.getD x []).map fun g => order.idxOf g := by
  have hi := List.idxOf_lt_length_of_mem hx
  unfold renS
  rw [getD_lt (by simpa using hi)]
  simp only [List.getElem_map]
  rw [List.getElem_idxOf hi]
theorem bfs_ren {S : List (List Nat)} {order : List Nat} (hc : ∀ s ∈ order, ∀ g ∈ S.getD s [], g ∈ order) : ∀ (k : Nat) (f : List Nat) (a : Nat), (∀ x ∈ f, x ∈ order) →
    bfs (renS S order) k (f.map fun x => order.idxOf x) a = (bfs S k f a).map fun x => order.idxOf x
  | 0, _, _, _ => rfl
  | k + 1, f, a, hf => by
    rw [bfs, bfs]
    by_cases h : a < f.length
    · rw [dif_pos h, dif_pos (by simpa using h)]
      have hx : f[a] ∈ order := hf _ (List.getElem_mem _)
      have e : (f.map fun x => order.idxOf x)[a]'(by simpa using h) = order.idxOf f[a] := by simp
      have hmem : ∀ x ∈ f ++ S.getD f[a] [], x ∈ order := fun x hx2 => by
        rcases List.mem_append.mp hx2 with q | q
        · exact hf x q
        · exact hc _ hx x q
      rw [e, ren_row hx, addNew_eq, addNew_eq, dedF_map_on _ _ _ fun u hu v hv q => idxOf_inj (hmem u hu) (hmem v hv) q]
      exact bfs_ren hc k _ _ fun x hx2 => by
        rcases (dedF_mem _ _).mp hx2 with q | q
        · exact hf x q
        · exact hc _ hx x q
    · rw [dif_neg h, dif_neg (by simpa using h)]
theorem reached_ren {S : List (List Nat)} (hv : Valid S) : reachedF (renS S (reachedF S)) = List.range (reachedF S).length := by
  obtain ⟨nd, hl, hc, t, h0⟩ := reachedF_ok hv
  have hlen : (reachedF S).length ≤ S.length := nodup_lt_len nd hl
  have hz : [0] = ([0] : List Nat).map fun x => (reachedF S).idxOf x := by rw [h0]; simp
  have key : bfs S ((reachedF S).length + 1) [0] 0 = reachedF S := by
    have up := bfs_ups S ((reachedF S).length + 1) [0] 0 (S.length - (reachedF S).length)
    have e : (reachedF S).length + 1 + (S.length - (reachedF S).length) = S.length + 1 := by omega
    rw [e] at up
    have := bfs_ends S ((reachedF S).length + 1) [0] 0 (by show _ < 0 + _; unfold reachedF at up ⊢; omega) (S.length - (reachedF S).length)
    rw [e] at this
    rw [← this]
    rfl
  have hlr : (renS S (reachedF S)).length = (reachedF S).length := by simp [renS]
  show bfs (renS S (reachedF S)) ((renS S (reachedF S)).length + 1) [0] 0 = _
  rw [hlr]
  conv => lhs; rw [hz]
  rw [bfs_ren hc _ _ _ (fun x hx => by rw [List.mem_singleton.mp hx, h0]; simp), key]
  exact map_idxOf_nodup nd
theorem ren_mach {b n : Nat} {S : List (List Nat)} {M order : List Nat} (m : Mach b n S M) (hl : ∀ x ∈ order, x < n) (hc : ∀ s ∈ order, ∀ g ∈ S.getD s [], g ∈ order) : Mach b order.length (renS S order) (renM M order) where
  ls := by simp [renS]
  lm := by simp [renM]
  wide := fun r hr => by
    obtain ⟨s, hs, rfl⟩ := List.mem_map.mp hr
    rw [List.length_map]
    exact m.rl (hl s hs)
  lt := fun r hr g hg => by
    obtain ⟨s, hs, rfl⟩ := List.mem_map.mp hr
    obtain ⟨x, hx, rfl⟩ := List.mem_map.mp hg
    exact List.idxOf_lt_length_of_mem (hc s hs x hx)
theorem ren_mark {M order : List Nat} {i : Nat} (h : i < order.length) : (renM M order).getD i 0 = M.getD (order.getD i 0) 0 := by
  unfold renM
  rw [getD_lt (by simpa using h), getD_lt (l := order) h]
  simp only [List.getElem_map]
theorem ren_step {b n : Nat} {S : List (List Nat)} {M order : List Nat} (m : Mach b n S M) (hl : ∀ x ∈ order, x < n) (hc : ∀ s ∈ order, ∀ g ∈ S.getD s [], g ∈ order) {i f : Nat} (h : i < order.length) (hf : f < b) :
    order.getD (dl (renS S order) i f) 0 = dl S (order.getD i 0) f := by
  have hx : order[i] ∈ order := List.getElem_mem _
  have e : (renS S order).getD i [] = (S.getD order[i] []).map fun g => order.idxOf g := by
    unfold renS
    rw [getD_lt (by simpa using h)]
    simp only [List.getElem_map]
  have hrl := m.rl (hl _ hx)
  unfold dl
  rw [e, getD_lt (l := order) h, getD_lt (l := List.map _ _) (by rw [List.length_map, hrl]; exact hf), getD_lt (l := S.getD order[i] []) (by rw [hrl]; exact hf)]
  simp only [List.getElem_map]
  have hg : (S.getD order[i] [])[f]'(by rw [hrl]; exact hf) ∈ order := hc _ hx _ (List.getElem_mem _)
  rw [getD_lt (List.idxOf_lt_length_of_mem hg)]
  exact List.getElem_idxOf (List.idxOf_lt_length_of_mem hg)
theorem ren_beh {b n : Nat} {S : List (List Nat)} {M order : List Nat} (m : Mach b n S M) (hl : ∀ x ∈ order, x < n) (hc : ∀ s ∈ order, ∀ g ∈ S.getD s [], g ∈ order) {i : Nat} (h : i < order.length) {w : List Nat} (hw : Over b w) :
    beh (renS S order) (renM M order) i w = beh S M (order.getD i 0) w :=
  (beh_map (ren_mach m hl hc) (fun i => order.getD i 0) (fun s hs => (ren_mark hs).symm) (fun s f hs hf => (ren_step m hl hc hs hf).symm) w i h hw).symm
end Fx
namespace Fx
theorem Mach.valid {b n : Nat} {S : List (List Nat)} {M : List Nat} (m : Mach b n S M) (h0 : 0 < n) (h1 : n ≤ 1000) (hb : b ≤ 1000) : Valid S :=
  ⟨by rw [m.ls]; exact h0, fun r hr g hg => by rw [m.ls]; exact m.lt r hr g hg, by rw [m.ls]; exact h1, fun r hr => by rw [m.wide r hr]; exact hb⟩
theorem Good.mach {b : Nat} {S : List (List Nat)} {M : List Nat} (g : Good b S M) : Mach b S.length S M := ⟨rfl, g.ml, g.wide, g.v.lt⟩
def Told (b n : Nat) (S : List (List Nat)) (M : List Nat) : Prop := ∀ s t, s < n → t < n → s ≠ t → ∃ w, Over b w ∧ beh S M s w ≠ beh S M t w
def Stays (n : Nat) (S : List (List Nat)) (M : List Nat) : Prop := ∀ s, s < n → M.getD (dl S s 0) 0 = M.getD s 0
structure LeastOk (b : Nat) (S : List (List Nat)) (M : List Nat) : Prop where
  g : Good b S M
  told : Told b S.length S M
  rch : reachedF S = List.range S.length
theorem cls_mem {cls : List Nat} (h : dedF [] cls = List.range (cnt cls)) {c : Nat} : c < cnt cls ↔ c ∈ cls := by
  rw [← List.mem_range, ← h, dedF_mem]
  simp
theorem fold_mach {b n : Nat} {S : List (List Nat)} {M cls : List Nat} (m : Mach b n S M) (hl : cls.length = n) (hd : dedF [] cls = List.range (cnt cls)) : Mach b (cnt cls) (foldS S cls) (foldM M cls) where
  ls := by simp [foldS]
  lm := by simp [foldM]
  wide := fun r hr => by
    obtain ⟨c, hc, rfl⟩ := List.mem_map.mp hr
    have := List.idxOf_lt_length_of_mem ((cls_mem hd).mp (List.mem_range.mp hc))
    rw [List.length_map]
    exact m.rl (by omega)
  lt := fun r hr g hg => by
    obtain ⟨c, hc, rfl⟩ := List.mem_map.mp hr
    obtain ⟨x, hx, rfl⟩ := List.mem_map.mp hg
    have h1 := List.idxOf_lt_length_of_mem ((cls_mem hd).mp (List.mem_range.mp hc))
    have h2 := m.lt _ (m.row (s := cls.idxOf c) (by omega)) x hx
    rw [getD_lt (by omega)]
    exact (cls_mem hd).mpr (List.getElem_mem _)
theorem fold_row {S : List (List Nat)} {cls : List Nat} {c : Nat} (h : c < cnt cls) : (foldS S cls).getD c [] = (S.getD (cls.idxOf c) []).map fun g => cls.getD g 0 := by
  unfold foldS
  rw [getD_lt (by simpa using h)]
  simp
theorem fold_mark {M cls : List Nat} {c : Nat} (h : c < cnt cls) : (foldM M cls).getD c 0 = M.getD (cls.idxOf c) 0 := by
  unfold foldM
  rw [getD_lt (by simpa using h)]
  simp
theorem fold_dl {b n : Nat} {S : List (List Nat)} {M cls : List Nat} (m : Mach b n S M) (hl : cls.length = n) (hd : dedF [] cls = List.range (cnt cls)) {c f : Nat} (h : c < cnt cls) (hf : f < b) :
    dl (foldS S cls) c f = cls.getD (dl S (cls.idxOf c) f) 0 := by
  have h1 := List.idxOf_lt_length_of_mem ((cls_mem hd).mp h)
  have h2 := m.rl (s := cls.idxOf c) (by omega)
  unfold dl
  rw [fold_row h, getD_lt (l := List.map _ _) (by rw [List.length_map, h2]; exact hf), getD_lt (l := S.getD (cls.idxOf c) []) (by rw [h2]; exact hf)]
  simp only [List.getElem_map]
theorem fold_beh {b n : Nat} {S : List (List Nat)} {M cls : List Nat} (m : Mach b n S M) (ok : ClsOk b n S M cls) (cg : Cong b n S cls) (hd : dedF [] cls = List.range (cnt cls)) {s : Nat} (hs : s < n) {w : List Nat} (hw : Over b w) :
    beh (foldS S cls) (foldM M cls) (cls.getD s 0) w = beh S M s w := by
  have back : ∀ s, s < n → cls.getD s 0 < cnt cls ∧ cls.idxOf (cls.getD s 0) < n ∧ cls[cls.idxOf (cls.getD s 0)]? = cls[s]? := fun s hs => by
    have hm : cls.getD s 0 ∈ cls := by rw [getD_lt (by rw [ok.len]; exact hs)]; exact List.getElem_mem _
    exact ⟨(cls_mem hd).mpr hm, by have := List.idxOf_lt_length_of_mem hm; have := ok.len; omega, by rw [idxOf_getElem? hm, getD_of (l := cls) (i := s) (by rw [ok.len]; exact hs)]⟩
  refine beh_map m (fun s => cls.getD s 0) (fun s hs => ?_) (fun s f hs hf => ?_) w s hs hw
  · obtain ⟨h1, h2, h3⟩ := back s hs
    rw [fold_mark h1]
    exact ok.mark _ _ h2 hs h3
  · obtain ⟨h1, h2, h3⟩ := back s hs
    rw [fold_dl m ok.len hd h1 hf]
    have := cg _ _ h2 hs h3 f hf
    rw [getD_of (l := cls) (by rw [ok.len]; exact m.dl h2 hf), getD_of (l := cls) (i := dl S s f) (by rw [ok.len]; exact m.dl hs hf)] at this
    exact Option.some.inj this
theorem stays_good {b n : Nat} {S : List (List Nat)} {M : List Nat} (m : Mach b n S M) (h : Stays n S M) (h0 : 0 < n) (h1 : n ≤ 60) (hb : 2 ≤ b) (hb2 : b ≤ 16) (hm : ∀ x ∈ M, x < 10) : Good b S M where
  v := m.valid h0 (by omega) (by omega)
  b2 := hb
  b16 := hb2
  n60 := by rw [m.ls]; exact h1
  wide := m.wide
  ml := by rw [m.lm, m.ls]
  m10 := hm
  pf := fun s hs => h s (by rw [m.ls] at hs; exact hs)
theorem ren_stays {b n : Nat} {S : List (List Nat)} {M order : List Nat} (m : Mach b n S M) (hb : 0 < b) (hl : ∀ x ∈ order, x < n) (hc : ∀ s ∈ order, ∀ g ∈ S.getD s [], g ∈ order) (h : Stays n S M) : Stays order.length (renS S order) (renM M order) := fun i hi => by
  have m2 := ren_mach m hl hc
  rw [ren_mark (m2.dl hi hb), ren_step m hl hc hi hb, ren_mark hi]
  have : order.getD i 0 < n := by rw [getD_lt hi]; exact hl _ (List.getElem_mem _)
  exact h _ this
theorem ren_small {n : Nat} {M order : List Nat} (hM : M.length = n) (hl : ∀ x ∈ order, x < n) (hm : ∀ x ∈ M, x < 10) : ∀ x ∈ renM M order, x < 10 := fun x hx => by
  obtain ⟨s, hs, rfl⟩ := List.mem_map.mp hx
  rw [getD_lt (by rw [hM]; exact hl s hs)]
  exact hm _ (List.getElem_mem _)
theorem leastF_ok {b : Nat} {S : List (List Nat)} {M : List Nat} (g : Good b S M) : LeastOk b (leastF S M).1 (leastF S M).2 := by
  have hb2 := g.b2
  have hb16 := g.b16
  have h60 := g.n60
  have m := g.mach
  obtain ⟨nd, hl, hc, t, h0⟩ := reachedF_ok g.v
  have hlen : (reachedF S).length ≤ S.length := nodup_lt_len nd hl
  have hpos : 0 < (reachedF S).length := by rw [h0]; simp
  have m1 := ren_mach m hl hc
  have st1 : Stays (reachedF S).length (renS S (reachedF S)) (renM M (reachedF S)) := ren_stays m (by omega) hl hc g.pf
  have sm1 := ren_small g.ml hl g.m10
  obtain ⟨ok, cg⟩ := classesF_ok m1 hpos
  have hd := classesF_num (renS S (reachedF S)) (renM M (reachedF S))
  have lf : leastF S M = (let s1 := renS S (reachedF S); let m1 := renM M (reachedF S); let cls := classesF s1 m1; (renS (foldS s1 cls) (reachedF (foldS s1 cls)), renM (foldM m1 cls) (reachedF (foldS s1 cls)))) := rfl
  generalize renS S (reachedF S) = s1 at *
  generalize renM M (reachedF S) = q1 at *
  generalize (reachedF S).length = n1 at *
  simp only at lf
  generalize classesF s1 q1 = cls at *
  have m2 := fold_mach m1 ok.len hd
  have cn : cnt cls ≤ n1 := by have := dedF_len cls []; rw [ok.len] at this; simpa [cnt] using this
  have c0 : 0 < cnt cls := cnt_pos (by rw [ok.len]; exact hpos)
  have rep : ∀ c, c < cnt cls → cls.idxOf c < n1 ∧ cls.getD (cls.idxOf c) 0 = c ∧ cls[cls.idxOf c]? = some c := fun c h => by
    have hm := (cls_mem hd).mp h
    have h1 := List.idxOf_lt_length_of_mem hm
    exact ⟨by have := ok.len; omega, by rw [getD_lt h1]; exact List.getElem_idxOf h1, idxOf_getElem? hm⟩
  have v2 := m2.valid c0 (by omega) (by omega)
  have told2 : Told b (cnt cls) (foldS s1 cls) (foldM q1 cls) := fun c d hc hd2 hne => by
    obtain ⟨a1, a2, a3⟩ := rep c hc
    obtain ⟨b1, b2, b3⟩ := rep d hd2
    obtain ⟨w, hw, hbne⟩ := ok.told _ _ a1 b1 (by rw [a3, b3]; exact fun e => hne (Option.some.inj e))
    refine ⟨w, hw, ?_⟩
    have e1 := fold_beh m1 ok cg hd a1 hw
    have e2 := fold_beh m1 ok cg hd b1 hw
    rw [a2] at e1
    rw [b2] at e2
    rw [e1, e2]
    exact hbne
  have st2 : Stays (cnt cls) (foldS s1 cls) (foldM q1 cls) := fun c hc => by
    obtain ⟨a1, a2, a3⟩ := rep c hc
    have hb0 : 0 < b := by omega
    have e1 := fold_beh m1 ok cg hd a1 (w := [0]) (fun f hf => by rw [List.mem_singleton.mp hf]; exact hb0)
    have e2 := fold_beh m1 ok cg hd a1 (w := []) (fun f hf => by simp at hf)
    rw [a2] at e1 e2
    have e3 := st1 _ a1
    exact e1.trans (e3.trans e2.symm)
  have sm2 : ∀ x ∈ foldM q1 cls, x < 10 := fun x hx => by
    obtain ⟨c, hc, rfl⟩ := List.mem_map.mp hx
    obtain ⟨a1, _, _⟩ := rep c (List.mem_range.mp hc)
    rw [getD_lt (by rw [m1.lm]; exact a1)]
    exact sm1 _ (List.getElem_mem _)
  obtain ⟨nd3, hl3, hc3, t3, h3⟩ := reachedF_ok v2
  rw [m2.ls] at hl3
  have hlen3 : (reachedF (foldS s1 cls)).length ≤ cnt cls := nodup_lt_len nd3 hl3
  have m3 := ren_mach m2 hl3 hc3
  have e1 : (leastF S M).1 = renS (foldS s1 cls) (reachedF (foldS s1 cls)) := by rw [lf]
  have e2 : (leastF S M).2 = renM (foldM q1 cls) (reachedF (foldS s1 cls)) := by rw [lf]
  rw [e1, e2]
  refine ⟨stays_good m3 (ren_stays m2 (by omega) hl3 hc3 st2) (by rw [h3]; simp) (by omega) hb2 hb16 (ren_small m2.lm hl3 sm2), ?_, ?_⟩
  · rw [m3.ls]
    intro s t hs ht hne
    have ms : (reachedF (foldS s1 cls)).getD s 0 < cnt cls := by rw [getD_lt hs]; exact hl3 _ (List.getElem_mem _)
    have mt : (reachedF (foldS s1 cls)).getD t 0 < cnt cls := by rw [getD_lt ht]; exact hl3 _ (List.getElem_mem _)
    obtain ⟨w, hw, hbne⟩ := told2 _ _ ms mt (by
      rw [getD_lt hs, getD_lt ht]
      exact fun e => hne ((List.getElem_inj nd3).mp e))
    exact ⟨w, hw, by rw [ren_beh m2 hl3 hc3 hs hw, ren_beh m2 hl3 hc3 ht hw]; exact hbne⟩
  · rw [reached_ren v2, m3.ls]
end Fx
namespace Fx
/-! ### the least form of a least form -/
theorem dedF_nodup_self {κ : Type} [DecidableEq κ] : ∀ (xs f : List κ), (f ++ xs).Nodup → dedF f xs = f ++ xs
  | [], f, _ => by simp [dedF]
  | x :: xs, f, h => by
    show dedF (meet f x) xs = _
    have hx : x ∉ f := fun hm => by
      rw [List.nodup_append] at h
      exact h.2.2 x hm x (List.mem_cons_self ..) rfl
    have e : meet f x = f ++ [x] := by unfold meet; rw [if_neg hx]
    rw [e, dedF_nodup_self xs (f ++ [x]) (by simpa using h)]
    simp
theorem nodup_of {α : Type} {l : List α} (h : ∀ i j, i < j → j < l.length → l[i]? ≠ l[j]?) : l.Nodup := by
  unfold List.Nodup
  rw [List.pairwise_iff_getElem]
  intro i j hi hj hij e
  exact h i j hij hj (by rw [List.getElem?_eq_getElem hi, List.getElem?_eq_getElem hj, e])
theorem ren_id {b n : Nat} {S : List (List Nat)} {M : List Nat} (m : Mach b n S M) : renS S (List.range n) = S ∧ renM M (List.range n) = M := by
  unfold renS renM
  constructor
  · apply List.ext_getElem
    · simp [m.ls]
    · intro i h1 h2
      have hi : i < n := by rw [← m.ls]; exact h2
      simp only [List.getElem_map, List.getElem_range]
      rw [getD_lt h2]
      conv => rhs; rw [← List.map_id S[i]]
      refine List.map_congr_left fun g hg => ?_
      exact range_idx (m.lt _ (List.getElem_mem _) g hg)
  · apply List.ext_getElem
    · simp [m.lm]
    · intro i h1 h2
      simp only [List.getElem_map, List.getElem_range]
      rw [getD_lt h2]
theorem fold_id {b n : Nat} {S : List (List Nat)} {M : List Nat} (m : Mach b n S M) (hc : cnt (List.range n) = n) : foldS S (List.range n) = S ∧ foldM M (List.range n) = M := by
  unfold foldS foldM
  rw [hc]
  constructor
  · apply List.ext_getElem
    · simp [m.ls]
    · intro i h1 h2
      have hi : i < n := by rw [← m.ls]; exact h2
      simp only [List.getElem_map, List.getElem_range]
      rw [range_idx hi, getD_lt h2]
      conv => rhs; rw [← List.map_id S[i]]
      refine List.map_congr_left fun g hg => ?_
      have := m.lt _ (List.getElem_mem _) g hg
      rw [getD_lt (by simpa using this)]
      simp
  · apply List.ext_getElem
    · simp [m.lm]
    · intro i h1 h2
      have hi : i < n := by rw [← m.lm]; exact h2
      simp only [List.getElem_map, List.getElem_range]
      rw [range_idx hi, getD_lt h2]
theorem leastF_id {b : Nat} {S : List (List Nat)} {M : List Nat} (L : LeastOk b S M) : leastF S M = (S, M) := by
  have m := L.g.mach
  obtain ⟨ok, cg⟩ := classesF_ok m L.g.v.pos
  have hd := classesF_num S M
  have nd : (classesF S M).Nodup := by
    refine nodup_of ?_
    intro i j hij hj he
    rw [ok.len] at hj
    obtain ⟨w, hw, hne⟩ := L.told i j (by omega) hj (by omega)
    exact hne (cong_beh m ok.len ok.mark cg w i j (by omega) hj he hw)
  have ec : classesF S M = List.range S.length := by
    have e1 := dedF_nodup_self (classesF S M) [] (by simpa using nd)
    rw [hd, List.nil_append] at e1
    have := congrArg List.length e1
    rw [List.length_range, ok.len] at this
    rw [← e1, this]
  have hcn : cnt (List.range S.length) = S.length := by
    unfold cnt
    rw [dedF_nodup_self _ _ (by simpa using List.nodup_range)]
    simp
  obtain ⟨r1, r2⟩ := ren_id m
  obtain ⟨f1, f2⟩ := fold_id m hcn
  unfold leastF
  simp only [L.rch, r1, r2, ec, f1, f2]
/-! ### tails -/
/-- what the states do on some words -/
abbrev col (S : List (List Nat)) (M : List Nat) (t : List Nat) : List Nat := (List.range S.length).map fun s => beh S M s t
def rowsT (S : List (List Nat)) (M : List Nat) (ts : List (List Nat)) : List (List Nat) := (List.range S.length).map fun s => ts.map fun t => beh S M s t
def kindsT (S : List (List Nat)) (M : List Nat) (ts : List (List Nat)) : Nat := cnt (rowsT S M ts)
theorem rowsT_len {S : List (List Nat)} {M : List Nat} {ts : List (List Nat)} : (rowsT S M ts).length = S.length := by simp [rowsT]
theorem rowsT_at {S : List (List Nat)} {M : List Nat} {ts : List (List Nat)} {s : Nat} (h : s < S.length) : (rowsT S M ts)[s]? = some (ts.map fun t => beh S M s t) := by simp [rowsT, h]
theorem rowsT_ker {S : List (List Nat)} {M : List Nat} {ts : List (List Nat)} {s t : Nat} (hs : s < S.length) (ht : t < S.length) : (rowsT S M ts)[s]? = (rowsT S M ts)[t]? ↔ ∀ w ∈ ts, beh S M s w = beh S M t w := by
  rw [rowsT_at hs, rowsT_at ht, Option.some.injEq, List.map_inj_left]
/-- more words, more kinds; the same words, the same -/
theorem kindsT_mono {S : List (List Nat)} {M : List Nat} {ts us : List (List Nat)} (h : ∀ t ∈ ts, t ∈ us) : kindsT S M ts ≤ kindsT S M us :=
  cnt_le_of rowsT_len rowsT_len fun i j hi hj e => (rowsT_ker hi hj).mpr fun w hw => (rowsT_ker hi hj).mp e w (h w hw)
theorem kindsT_le {S : List (List Nat)} {M : List Nat} {ts : List (List Nat)} : kindsT S M ts ≤ S.length := by
  have := dedF_len (rowsT S M ts) []
  rw [rowsT_len] at this
  simpa [kindsT, cnt] using this
/-- the words one longer -/
def more (b : Nat) (ts : List (List Nat)) : List (List Nat) := ts.flatMap fun t => (List.range b).map fun f => f :: t
theorem mem_more {b : Nat} {ts : List (List Nat)} {w : List Nat} : w ∈ more b ts ↔ ∃ t ∈ ts, ∃ f, f < b ∧ w = f :: t := by
  unfold more
  simp only [List.mem_flatMap, List.mem_map, List.mem_range]
  constructor
  · rintro ⟨t, ht, f, hf, rfl⟩; exact ⟨t, ht, f, hf, rfl⟩
  · rintro ⟨t, ht, f, hf, rfl⟩; exact ⟨t, ht, f, hf, rfl⟩
/-- where no longer word parts anything, all are parted -/
theorem kindsT_full {b : Nat} {S : List (List Nat)} {M : List Nat} (L : LeastOk b S M) {ts : List (List Nat)} (h0 : [] ∈ ts) (h : ∀ w ∈ more b ts, kindsT S M (ts ++ [w]) ≤ kindsT S M ts) : kindsT S M ts = S.length := by
  have m := L.g.mach
  have same : ∀ w ∈ more b ts, ∀ s t, s < S.length → t < S.length → (∀ u ∈ ts, beh S M s u = beh S M t u) → beh S M s w = beh S M t w := by
    intro w hw s t hs ht hu
    have := refine_eq (X := rowsT S M ts) (Y := rowsT S M (ts ++ [w])) rowsT_len rowsT_len (fun i j hi hj e => (rowsT_ker hi hj).mpr fun u hu => (rowsT_ker hi hj).mp e u (List.mem_append_left _ hu)) (h w hw) s t hs ht ((rowsT_ker hs ht).mpr hu)
    exact (rowsT_ker hs ht).mp this w (by simp)
  have all : ∀ w, Over b w → ∀ s t, s < S.length → t < S.length → (∀ u ∈ ts, beh S M s u = beh S M t u) → beh S M s w = beh S M t w := by
    intro w
    induction w with
    | nil => intro _ s t _ _ hu; exact hu [] h0
    | cons f w ih =>
      intro hw s t hs ht hu
      have hf : f < b := hw f (List.mem_cons_self ..)
      rw [beh_cons, beh_cons]
      refine ih (fun g hg => hw g (List.mem_cons_of_mem _ hg)) _ _ (m.dl hs hf) (m.dl ht hf) fun u hu2 => ?_
      have := same (f :: u) (mem_more.mpr ⟨u, hu2, f, hf, rfl⟩) s t hs ht hu
      rw [beh_cons, beh_cons] at this
      exact this
  have nd : (rowsT S M ts).Nodup := by
    refine nodup_of ?_
    intro i j hij hj he
    rw [rowsT_len] at hj
    obtain ⟨w, hw, hne⟩ := L.told i j (by omega) hj (by omega)
    exact hne (all w hw i j (by omega) hj ((rowsT_ker (by omega) hj).mp he))
  unfold kindsT cnt
  rw [dedF_nodup_self _ _ (by simpa using nd)]
  simp [rowsT_len]
/-- numbering the pairs of a numbering and a column -/
theorem numF_zip {κ : Type} [DecidableEq κ] {X : List κ} {Y : List Nat} (h : Y.length = X.length) : ((numF X).zip Y).length = X.length := by simp [numF_len, h]
theorem numF_max {κ : Type} [DecidableEq κ] (X : List κ) (h : 0 < X.length) : (∀ c ∈ numF X, c ≤ cnt X - 1) ∧ cnt X - 1 ∈ numF X := by
  refine ⟨fun c hc => by have := numF_lt X c hc; omega, ?_⟩
  have h0 := cnt_pos h
  have : cnt X - 1 ∈ dedF [] (numF X) := by rw [dedF_numF]; exact List.mem_range.mpr (by omega)
  simpa using (dedF_mem (numF X) []).mp this
end Fx
namespace Fx
open PySem PySem.Spec PyProof.Rows L2
/-! ### _law_behind, _law_kinds, sorting of words -/
theorem ix_row {b : Nat} {S : List (List Nat)} {M : List Nat} (m : Mach b S.length S M) {s f : Nat} (hs : s < S.length) (hf : f < b) {δ : En} {st : Store} (h0 : δ[0]? = some (some (eR b S M))) (h1 : δ[1]? = some (some (eN s))) (h3 : δ[3]? = some (some (eN f))) :
    ixM (ixM (ixM (varM 0) (conM (.int 1))) (varM 1)) (varM 3) δ st = .ok (eN (dl S s f)) st := by
  have hr : S[s]? = some (S.getD s []) := by simp [hs]
  have hl := m.rl hs
  have hf2 : (S.getD s [])[f]? = some (dl S s f) := by
    unfold dl
    rw [getD_lt (l := S.getD s []) (by rw [hl]; exact hf)]
    simp [hl, hf]
  simp [varM, h0, h1, h3, atI_nat, hr, hf2, -List.getD_eq_getElem?_getD]
theorem ix_mark {b : Nat} {S : List (List Nat)} {M : List Nat} (m : Mach b S.length S M) {s : Nat} (hs : s < S.length) {δ : En} {st : Store} (h0 : δ[0]? = some (some (eR b S M))) (h1 : δ[1]? = some (some (eN s))) :
    ixM (ixM (varM 0) (conM (.int 2))) (varM 1) δ st = .ok (eN (M.getD s 0)) st := by
  have hr : M[s]? = some (M.getD s 0) := by have := m.lm; simp [this, hs]
  simp [varM, h0, h1, atI_nat, hr, -List.getD_eq_getElem?_getD]
theorem behind_loop {b : Nat} {S : List (List Nat)} {M : List Nat} (m : Mach b S.length S M) {st : Store} (d2 : Option D) : ∀ (w : List Nat) (s : Nat) (y : Option D), s < S.length → Over b w →
    ∃ z, forGo [] (nameG 3) (setS 1 (ixM (ixM (ixM (varM 0) (conM (.int 1))) (varM 1)) (varM 3))) (w.map eN) [some (eR b S M), some (eN s), d2, y] st = .ok .nx [some (eR b S M), some (eN (runW S s w)), d2, z] st ∧ runW S s w < S.length
  | [], s, y, hs, _ => ⟨y, forGo_nil gok_nil, hs⟩
  | f :: w, s, y, hs, hw => by
    have hf : f < b := hw f (List.mem_cons_self ..)
    obtain ⟨z, e, h⟩ := behind_loop m d2 w (dl S s f) (some (eN f)) (m.dl hs hf) fun g hg => hw g (List.mem_cons_of_mem _ hg)
    refine ⟨z, ?_, h⟩
    rw [List.map_cons]
    exact (forGo_cons gok_nil (δ1 := [some (eR b S M), some (eN s), d2, some (eN f)]) rfl (set_nx (ix_row m hs hf rfl rfl rfl))).trans e
theorem F_behind {b : Nat} {S : List (List Nat)} {M : List Nat} (g : Good b S M) {s : Nat} (hs : s < S.length) {w : List Nat} (hw : Over b w) {st : Store} : F__law_behind [eR b S M, eN s, eL w] st = .ok (eN (beh S M s w)) st := by
  have m := g.mach
  obtain ⟨z, e, h⟩ := behind_loop m (st := st) (some (eL w)) w s none hs hw
  have hi : seqI (varM 2) [some (eR b S M), some (eN s), some (eL w), none] st = .ok ⟨w.map eN, []⟩ st := by simp [seqI]
  unfold F__law_behind gcF
  rw [run_rt (N := 4) (m := m__law_behind) (ds := [eR b S M, eN s, eL w]) ((seq_nx (for_nx hi e)).trans (ret_nx (ix_mark m h rfl rfl)))]
  exact gc_id lows_int
theorem intsOf_eN : ∀ l : List Nat, intsOf (l.map eN) = some (l.map fun (n : Nat) => (n : Int))
  | [] => rfl
  | n :: l => by rw [List.map_cons, List.map_cons, intsOf, intsOf_eN l]; rfl
theorem tupsOf_eL : ∀ l : List (List Nat), tupsOf (l.map eL) = some (l.map fun r => r.map fun (n : Nat) => (n : Int))
  | [] => rfl
  | r :: l => by rw [List.map_cons, List.map_cons, tupsOf, intsOf_eN, tupsOf_eL l]
theorem dd_nat (l : List (List Nat)) : (dd (l.map fun r => r.map fun (n : Nat) => (n : Int))).length = cnt l := by
  have inj : ∀ a b : List Nat, (a.map fun (n : Nat) => (n : Int)) = b.map (fun (n : Nat) => (n : Int)) → a = b := by
    intro a
    induction a with
    | nil => intro b h; cases b with
      | nil => rfl
      | cons y b => cases h
    | cons x a ih => intro b h; cases b with
      | nil => cases h
      | cons y b =>
        rw [List.map_cons, List.map_cons] at h
        injection h with h1 h2
        rw [ih b h2, Int.ofNat.inj h1]
  apply Nat.le_antisymm
  · have := nodup_sub_len (l := dd (l.map fun r => r.map fun (n : Nat) => (n : Int))) (m := (dedF [] l).map fun r => r.map fun (n : Nat) => (n : Int)) dd_nodup fun x hx => by
      obtain ⟨r, hr, rfl⟩ := List.mem_map.mp (mem_dd.mp hx)
      exact List.mem_map.mpr ⟨r, dedF_self l r hr, rfl⟩
    simpa [cnt] using this
  · have := nodup_sub_len (l := (dedF [] l).map fun r => r.map fun (n : Nat) => (n : Int)) (m := dd (l.map fun r => r.map fun (n : Nat) => (n : Int))) (by
      have nd := dedF_nodup l [] (by simp)
      exact List.Pairwise.map _ (fun a b hne e => hne (inj a b e)) nd) fun x hx => by
      obtain ⟨r, hr, rfl⟩ := List.mem_map.mp hx
      have : r ∈ l := by simpa using (dedF_mem l []).mp hr
      exact mem_dd.mpr (List.mem_map.mpr ⟨r, this, rfl⟩)
    simpa [cnt] using this
def unN : D → Nat
  | .int i => i.toNat
  | _ => 0
def unL : D → List Nat
  | .tup ds => ds.map unN
  | _ => []
@[simp] theorem unN_eN (n : Nat) : unN (eN n) = n := rfl
@[simp] theorem unL_eL (w : List Nat) : unL (eL w) = w := by simp [unL, Function.comp_def]
theorem F_kinds {b : Nat} {S : List (List Nat)} {M : List Nat} (g : Good b S M) {ts : List (List Nat)} (hts : ∀ w ∈ ts, Over b w) (hn : ts.length ≤ 1000) {d : D} {st : Store} (h : seqOf d st = some (ts.map eL)) : F__law_kinds [eR b S M, d] st = .ok (eN (kindsT S M ts)) st := by
  have h60 := g.n60
  have hin : ∀ {δ : En} {s : Nat} {acc : List D}, s < S.length → δ[0]? = some (some (eR b S M)) → δ[1]? = some (some d) → δ[4]? = some (some (eN s)) → δ.length = 6 →
      gcM (blM tupleV (consM (lcM (seqI (varM 1)) (nameG 5) yesB (callM 3 (F__law_behind) (consM (varM 0) (consM (varM 4) (consM (varM 5) nilM)))) [5]) nilM)) δ (st ++ [.lst acc]) = .ok (eL (ts.map fun t => beh S M s t)) (st ++ [.lst acc]) := by
    intro δ s acc hs h0 h1 h4 hlen
    obtain ⟨gs, e1, e2⟩ := seqI_old (m := varM 1) (δ := δ) (st := st) (t := [.lst acc]) (d := d) (xs := ts.map eL) (by simp [varM, h1]) h
    have := tupLc (g := nameG 5) (c := yesB) (e := callM 3 (F__law_behind) (consM (varM 0) (consM (varM 4) (consM (varM 5) nilM)))) (vs := [5]) e1 (fun x => eN (beh S M s (unL x))) e2.1 (by rw [sizeLine_eq]; simp; omega) (fun x hx acc2 => by
        obtain ⟨w, hw, rfl⟩ := List.mem_map.mp hx
        refine ⟨_, rfl, rfl, ?_⟩
        have hb := F_behind g hs (hts w hw) (st := (st ++ [.lst acc]) ++ [.lst acc2])
        have : callM 3 (F__law_behind) (consM (varM 0) (consM (varM 4) (consM (varM 5) nilM))) ((wipeD δ [5]).set 5 (some (eL w))) ((st ++ [.lst acc]) ++ [.lst acc2]) = F__law_behind [eR b S M, eN s, eL w] ((st ++ [.lst acc]) ++ [.lst acc2]) := by
          have k0 : ((wipeD δ [5]).set 5 (some (eL w)))[0]? = some (some (eR b S M)) := by simp [wipeD, h0]
          have k4 : ((wipeD δ [5]).set 5 (some (eL w)))[4]? = some (some (eN s)) := by simp [wipeD, h4]
          have k5 : ((wipeD δ [5]).set 5 (some (eL w)))[5]? = some (some (eL w)) := by simp [wipeD, hlen]
          simp [varM, k0, k4, k5]
        rw [this, hb, unL_eL]) (fun x hx => by
        obtain ⟨w, hw, rfl⟩ := List.mem_map.mp hx
        simp)
    rw [this, List.map_map]
    simp only [Function.comp_def, unL_eL]
    unfold eL
    rw [List.map_map]
    rfl
  have hr : range1I (consM (varM 2) nilM) [some (eR b S M), some d, some (eN S.length), none, none, none] st = .ok ⟨(List.range S.length).map eN, []⟩ st := by
    exact range1_eq (by simp) (by omega)
  have e3 := lcM_map (g := nameG 4) (c := yesB) (e := gcM (blM tupleV (consM (lcM (seqI (varM 1)) (nameG 5) yesB (callM 3 (F__law_behind) (consM (varM 0) (consM (varM 4) (consM (varM 5) nilM)))) [5]) nilM))) (vs := [4]) hr (fun x => eL (ts.map fun t => beh S M (unN x) t)) gok_nil (by rw [sizeLine_eq]; simp; omega) (fun x hx acc => by
      obtain ⟨s, hs, rfl⟩ := List.mem_map.mp hx
      exact ⟨_, rfl, rfl, hin (List.mem_range.mp hs) rfl rfl rfl rfl⟩)
  have hmap : ((List.range S.length).map eN).map (fun x => eL (ts.map fun t => beh S M (unN x) t)) = (rowsT S M ts).map eL := by unfold rowsT; rw [List.map_map, List.map_map]; simp [Function.comp_def]
  rw [hmap] at e3
  have e4 : lenSetM (varM 3) [some (eR b S M), some d, some (eN S.length), some (.loc st.length), none, none] (st ++ [.lst ((rowsT S M ts).map eL)]) = .ok (eN (kindsT S M ts)) (st ++ [.lst ((rowsT S M ts).map eL)]) := by
    unfold lenSetM
    simp only [varM, List.getElem?_cons_succ, List.getElem?_cons_zero, Res.bind_ok, at_len, tupsOf_eL]
    rw [if_pos (by rw [List.length_map, rowsT_len]; omega), dd_nat]
    rfl
  unfold F__law_kinds gcF
  rw [run_rt (N := 6) (m := m__law_kinds) (ds := [eR b S M, d]) ((seq_nx (set_nx (d := eN S.length) (st1 := st) (by simp))).trans <| (seq_nx (set_nx e3)).trans (ret_nx e4))]
  exact gc_val lows_int
end Fx
namespace Fx
open PySem PySem.Spec PyProof.Rows L2
/-! ### sorting words -/
def pdW (w : List Nat) : PyData := .tuple (w.map fun (n : Nat) => .int (n : Int))
def pdP (w : List Nat) : PyData := .tuple [.int (w.length : Int), pdW w]
abbrev pairD (w : List Nat) : D := .tup [eN w.length, eL w]
def srtW (ws : List (List Nat)) : List (List Nat) := ws.mergeSort (PySem.W.dataLe false pdW)
def srtP (ws : List (List Nat)) : List (List Nat) := ws.mergeSort (PySem.W.dataLe false pdP)
theorem srtW_mem {ws : List (List Nat)} {w : List Nat} : w ∈ srtW ws ↔ w ∈ ws := List.mem_mergeSort
theorem srtP_mem {ws : List (List Nat)} {w : List Nat} : w ∈ srtP ws ↔ w ∈ ws := List.mem_mergeSort
theorem optAll_map {f : D → Option PyData} {γ : Type} {e : γ → D} {h : γ → PyData} (q : ∀ x, f (e x) = some (h x)) : ∀ l : List γ, optAll f (l.map e) = some (l.map h)
  | [] => rfl
  | x :: l => by rw [List.map_cons, List.map_cons, optAll, q, optAll_map q l]
theorem pyD_eL (st : Store) (n : Nat) (w : List Nat) : pyD st (n + 2) (eL w) = some (pdW w) := by
  unfold pyD
  rw [optAll_map (h := fun (n : Nat) => PyData.int (n : Int)) (fun x => rfl)]
  rfl
theorem pyD_pair (st : Store) (n : Nat) (w : List Nat) : pyD st (n + 3) (pairD w) = some (pdP w) := by
  unfold pyD
  simp only [optAll, pyD_eL]
  rfl
theorem alike_ints : ∀ v w : List Nat, PySem.W.alikeAll (v.map fun (n : Nat) => PyData.int (n : Int)) (w.map fun (n : Nat) => PyData.int (n : Int)) = true
  | [], _ => by rw [List.map_nil, PySem.W.alikeAll]
  | _ :: _, [] => by rw [List.map_nil, List.map_cons, PySem.W.alikeAll]
  | a :: v, b :: w => by rw [List.map_cons, List.map_cons, PySem.W.alikeAll, alike_ints v w]; rfl
theorem alike_W (v w : List Nat) : PySem.W.alike (pdW v) (pdW w) = true := by unfold pdW; rw [PySem.W.alike]; exact alike_ints v w
theorem alike_P (v w : List Nat) : PySem.W.alike (pdP v) (pdP w) = true := by
  unfold pdP
  rw [PySem.W.alike, PySem.W.alikeAll, PySem.W.alikeAll, alike_W, PySem.W.alikeAll]
  rfl
theorem depth_ints : ∀ w : List Nat, PyData.depthAll (w.map fun (n : Nat) => PyData.int (n : Int)) = 0
  | [] => rfl
  | a :: w => by rw [List.map_cons, PyData.depthAll, depth_ints w]; rfl
theorem depth_W (w : List Nat) : (pdW w).depth = 1 := by unfold pdW; rw [PyData.depth, depth_ints]
theorem depth_P (w : List Nat) : (pdP w).depth = 2 := by
  unfold pdP
  rw [PyData.depth, PyData.depthAll, PyData.depthAll, depth_W, PyData.depthAll, PyData.depth]
  rfl
theorem sortDL_map {enc : List Nat → D} {pe : List Nat → PyData} (ws : List (List Nat)) : sortDL (ws.map enc) (ws.map pe) = (ws.mergeSort (PySem.W.dataLe false pe)).map enc := by
  unfold sortDL
  have e : (ws.map enc).zip (ws.map pe) = ws.map fun w => (enc w, pe w) := by
    induction ws with
    | nil => rfl
    | cons w ws ih => rw [List.map_cons, List.map_cons, List.map_cons, List.zip_cons_cons, ih]
  rw [e, ← List.map_mergeSort (r := PySem.W.dataLe false pe) (f := fun w => (enc w, pe w)) (fun a _ b _ => rfl), List.map_map]
  rfl
theorem sortedV_words {enc : List Nat → D} {pe : List Nat → PyData} {ws : List (List Nat)} {l : Nat} {st : Store} (hs : st[l]? = some (.lst (ws.map enc))) (h1 : ∀ w, pyD st 65 (enc w) = some (pe w)) (h2 : ∀ v w, PySem.W.alike (pe v) (pe w) = true) (h3 : ∀ w, ∃ xs, pe w = .tuple xs) (h4 : ∀ w, (pe w).depth ≤ 64) :
    sortedV [.loc l] st = .ok (.loc st.length) (st ++ [.lst ((ws.mergeSort (PySem.W.dataLe false pe)).map enc)]) := by
  unfold sortedV
  simp only [hs, optAll_map h1]
  rw [if_pos, sortDL_map]
  refine ⟨?_, ?_, ?_⟩
  · unfold alikeB
    rw [List.all_eq_true]
    intro d hd
    obtain ⟨v, _, rfl⟩ := List.mem_map.mp hd
    rw [List.all_eq_true]
    intro d hd
    obtain ⟨w, _, rfl⟩ := List.mem_map.mp hd
    exact h2 v w
  · unfold PySem.W.fxSortable
    rw [Bool.or_eq_true]
    refine .inl ?_
    rw [List.all_eq_true]
    intro d hd
    obtain ⟨v, _, rfl⟩ := List.mem_map.mp hd
    obtain ⟨xs, e⟩ := h3 v
    rw [e]
  · rw [List.all_eq_true]
    intro d hd
    obtain ⟨v, _, rfl⟩ := List.mem_map.mp hd
    exact decide_eq_true (h4 v)
theorem sortedV_W {ws : List (List Nat)} {l : Nat} {st : Store} (hs : st[l]? = some (.lst (ws.map eL))) : sortedV [.loc l] st = .ok (.loc st.length) (st ++ [.lst ((srtW ws).map eL)]) :=
  sortedV_words hs (pyD_eL st 63) alike_W (fun _ => ⟨_, rfl⟩) fun w => by rw [depth_W]; decide
theorem sortedV_P {ws : List (List Nat)} {l : Nat} {st : Store} (hs : st[l]? = some (.lst (ws.map pairD))) : sortedV [.loc l] st = .ok (.loc st.length) (st ++ [.lst ((srtP ws).map pairD)]) :=
  sortedV_words hs (pyD_pair st 62) alike_P (fun _ => ⟨_, rfl⟩) fun w => by rw [depth_P]; decide
end Fx
namespace Fx
open PySem PySem.Spec PyProof.Rows L2
/-! ### which word comes next -/
def goodT (b : Nat) (S : List (List Nat)) (M : List Nat) (ts : List (List Nat)) : List (List Nat) := (srtP (more b ts)).filter fun w => decide (kindsT S M ts < kindsT S M (ts ++ [w]))
def nextT (b : Nat) (S : List (List Nat)) (M : List Nat) (ts : List (List Nat)) : List Nat := (goodT b S M ts).headD []
def tailsF (b : Nat) (S : List (List Nat)) (M : List Nat) : Nat → List (List Nat) → List (List Nat)
  | 0, ts => ts
  | k + 1, ts => if kindsT S M ts < S.length then tailsF b S M k (ts ++ [nextT b S M ts]) else ts
structure TOk (b : Nat) (S : List (List Nat)) (M : List Nat) (ts : List (List Nat)) : Prop where
  zero : [] ∈ ts
  over : ∀ w ∈ ts, Over b w
  short : ∀ w ∈ ts, w.length < ts.length
  few : ts.length ≤ kindsT S M ts
  nd : ts.Nodup
theorem TOk.start {b : Nat} {S : List (List Nat)} {M : List Nat} (h : 0 < S.length) : TOk b S M [[]] where
  zero := by simp
  over := fun w hw f hf => by rw [List.mem_singleton.mp hw] at hf; cases hf
  short := fun w hw => by rw [List.mem_singleton.mp hw]; simp
  few := by unfold kindsT; exact cnt_pos (by rw [rowsT_len]; exact h)
  nd := by simp
theorem goodT_mem {b : Nat} {S : List (List Nat)} {M : List Nat} {ts : List (List Nat)} {w : List Nat} : w ∈ goodT b S M ts ↔ w ∈ more b ts ∧ kindsT S M ts < kindsT S M (ts ++ [w]) := by
  unfold goodT
  rw [List.mem_filter, srtP_mem, decide_eq_true_iff]
theorem goodT_some {b : Nat} {S : List (List Nat)} {M : List Nat} (L : LeastOk b S M) {ts : List (List Nat)} (t : TOk b S M ts) (h : kindsT S M ts < S.length) : ∃ r, goodT b S M ts = nextT b S M ts :: r := by
  cases e : goodT b S M ts with
  | nil =>
    have := kindsT_full L t.zero fun w hw => by
      apply Classical.byContradiction
      intro hn
      have : w ∈ goodT b S M ts := goodT_mem.mpr ⟨hw, by omega⟩
      rw [e] at this
      cases this
    omega
  | cons w r => exact ⟨r, by unfold nextT; rw [e]; rfl⟩
theorem TOk.next {b : Nat} {S : List (List Nat)} {M : List Nat} (L : LeastOk b S M) {ts : List (List Nat)} (t : TOk b S M ts) (h : kindsT S M ts < S.length) : TOk b S M (ts ++ [nextT b S M ts]) ∧ nextT b S M ts ∈ more b ts ∧ kindsT S M ts < kindsT S M (ts ++ [nextT b S M ts]) ∧ nextT b S M ts ∉ ts := by
  obtain ⟨r, e⟩ := goodT_some L t h
  have hm : nextT b S M ts ∈ goodT b S M ts := by rw [e]; exact List.mem_cons_self ..
  obtain ⟨h1, h2⟩ := goodT_mem.mp hm
  have hn : nextT b S M ts ∉ ts := fun hin => by
    have := kindsT_mono (S := S) (M := M) (ts := ts ++ [nextT b S M ts]) (us := ts) fun w hw => by
      rcases List.mem_append.mp hw with q | q
      · exact q
      · rw [List.mem_singleton.mp q]; exact hin
    omega
  refine ⟨⟨List.mem_append_left _ t.zero, fun w hw => ?_, fun w hw => ?_, ?_, ?_⟩, h1, h2, hn⟩
  · rcases List.mem_append.mp hw with q | q
    · exact t.over w q
    · rw [List.mem_singleton.mp q]
      obtain ⟨u, hu, f, hf, e2⟩ := mem_more.mp h1
      rw [e2]
      intro g hg
      rcases List.mem_cons.mp hg with rfl | hg
      · exact hf
      · exact t.over u hu g hg
  · rw [List.length_append, List.length_singleton]
    rcases List.mem_append.mp hw with q | q
    · have := t.short w q; omega
    · rw [List.mem_singleton.mp q]
      obtain ⟨u, hu, f, hf, e2⟩ := mem_more.mp h1
      have := t.short u hu
      rw [e2, List.length_cons]
      omega
  · rw [List.length_append, List.length_singleton]
    have := t.few
    omega
  · rw [List.nodup_append]
    exact ⟨t.nd, by simp, fun a ha c hc e => hn (by rw [List.mem_singleton.mp hc] at e; exact e ▸ ha)⟩
theorem tailsF_ok {b : Nat} {S : List (List Nat)} {M : List Nat} (L : LeastOk b S M) : ∀ (k : Nat) (ts : List (List Nat)), TOk b S M ts → S.length - kindsT S M ts < k → TOk b S M (tailsF b S M k ts) ∧ kindsT S M (tailsF b S M k ts) = S.length
  | 0, _, _, h => absurd h (by omega)
  | k + 1, ts, t, h => by
    unfold tailsF
    have hle := kindsT_le (S := S) (M := M) (ts := ts)
    split
    · rename_i hlt
      obtain ⟨t2, _, h2, _⟩ := t.next L hlt
      exact tailsF_ok L k _ t2 (by omega)
    · exact ⟨t, by omega⟩
theorem tailsF_fuel {b : Nat} {S : List (List Nat)} {M : List Nat} (L : LeastOk b S M) : ∀ (k k' : Nat) (ts : List (List Nat)), TOk b S M ts → S.length - kindsT S M ts < k → S.length - kindsT S M ts < k' → tailsF b S M k ts = tailsF b S M k' ts
  | 0, _, _, _, h, _ => absurd h (by omega)
  | _, 0, _, _, _, h => absurd h (by omega)
  | k + 1, k' + 1, ts, t, h, h' => by
    unfold tailsF
    split
    · rename_i hlt
      obtain ⟨t2, _, h2, _⟩ := t.next L hlt
      exact tailsF_fuel L k k' _ t2 (by omega) (by omega)
    · rfl
/-- the tails of a least row -/
def tailsW (b : Nat) (S : List (List Nat)) (M : List Nat) : List (List Nat) := if S.length = 1 then [] else srtW (tailsF b S M (S.length + 1) [[]])
/-- kinds do not see the order of the words -/
theorem kindsT_perm {S : List (List Nat)} {M : List Nat} {ts us : List (List Nat)} (h : ∀ w, w ∈ ts ↔ w ∈ us) : kindsT S M ts = kindsT S M us :=
  Nat.le_antisymm (kindsT_mono fun w hw => (h w).mp hw) (kindsT_mono fun w hw => (h w).mpr hw)
theorem tailsW_kinds {b : Nat} {S : List (List Nat)} {M : List Nat} (L : LeastOk b S M) (h : S.length ≠ 1) : kindsT S M (tailsW b S M) = S.length := by
  unfold tailsW
  rw [if_neg h, kindsT_perm (us := tailsF b S M (S.length + 1) [[]]) fun w => srtW_mem]
  exact (tailsF_ok L _ _ (TOk.start L.g.v.pos) (by omega)).2
/-! ### stores that grow -/
structure Gr (n : Nat) (T T' : Store) : Prop where
  le : n ≤ T.length
  le' : n ≤ T'.length
  at_ : ∀ i, i < n → T'[i]? = T[i]?
theorem Gr.refl {n : Nat} {T : Store} (h : n ≤ T.length) : Gr n T T := ⟨h, h, fun _ _ => rfl⟩
theorem Gr.trans {n : Nat} {T T' T'' : Store} (a : Gr n T T') (b : Gr n T' T'') : Gr n T T'' := ⟨a.le, b.le', fun i hi => (b.at_ i hi).trans (a.at_ i hi)⟩
theorem Gr.app {n : Nat} {T t : Store} (h : n ≤ T.length) : Gr n T (T ++ t) := ⟨h, by rw [List.length_append]; omega, fun i hi => by rw [List.getElem?_append_left (by omega)]⟩
theorem Gr.set {n l : Nat} {T : Store} {x : MO} (h : n ≤ T.length) (hl : n ≤ l) : Gr n T (T.set l x) := ⟨h, by rw [List.length_set]; exact h, fun i hi => by rw [List.getElem?_set_ne (by omega)]⟩
theorem Gr.less {n m : Nat} {T T' : Store} (a : Gr n T T') (h : m ≤ n) : Gr m T T' := ⟨Nat.le_trans h a.le, Nat.le_trans h a.le', fun i hi => a.at_ i (by omega)⟩
theorem Gr.ex {T T' : Store} (a : Gr T.length T T') : ∃ t, T' = T ++ t := by
  refine ⟨T'.drop T.length, ?_⟩
  apply List.ext_getElem?
  intro i
  by_cases h : i < T.length
  · rw [List.getElem?_append_left h, a.at_ i h]
  · rw [List.getElem?_append_right (by omega), List.getElem?_drop]
    congr 1
    omega
theorem gc_gr {st T : Store} {d : D} (a : Gr st.length st T) (h : d.lows st.length = true) : gc st (.ok d T) = .ok d st := by
  obtain ⟨t, e⟩ := a.ex
  rw [e]
  exact gc_val h
end Fx
namespace Fx
open PySem PySem.Spec PyProof.Rows L2
/-! ### _law_tails -/
noncomputable abbrev menuB : SM := exprS (lmM extV (varM 2) (consM (lcM (range1I (consM (ixM (varM 0) (conM (.int 0))) nilM)) (nameG 4) yesB (tupM (consM (addM (blM lenV (consM (varM 3) nilM)) (conM (.int 1))) (consM (addM (tupM (consM (varM 4) nilM)) (varM 3)) nilM))) [4]) nilM))
theorem expr_nx {m : EM} {δ : En} {st st1 : Store} {d : D} (h : m δ st = .ok d st1) : exprS m δ st = .ok .nx δ st1 := by unfold exprS; rw [h]; rfl
theorem pair_elem {δ : En} {T : Store} {u : List Nat} {f : Nat} (h3 : δ[3]? = some (some (eL u))) (h4 : δ[4]? = some (some (eN f))) (hu : u.length ≤ 1000) :
    tupM (consM (addM (blM lenV (consM (varM 3) nilM)) (conM (.int 1))) (consM (addM (tupM (consM (varM 4) nilM)) (varM 3)) nilM)) δ T = .ok (pairD (f :: u)) T := by
  have hz : 1 + u.length ≤ sizeLine := by rw [sizeLine_eq]; omega
  simp [varM, h3, h4, sizeLine_eq, hz]
  rw [if_pos (by omega)]
  simp
theorem menu_step {b : Nat} {S : List (List Nat)} {M : List Nat} (g : Good b S M) {lf m : Nat} {acc : List (List Nat)} {u : List Nat} {y4 y5 y6 : Option D} {T : Store} (hm : T[m]? = some (.lst (acc.map pairD))) (hu : u.length ≤ 1000) (hz : acc.length + b ≤ sizeLine) :
    menuB [some (eR b S M), some (.loc lf), some (.loc m), some (eL u), y4, y5, y6] T = .ok .nx [some (eR b S M), some (.loc lf), some (.loc m), some (eL u), y4, y5, y6] ((T ++ [MO.lst (((List.range b).map fun f => f :: u).map pairD)]).set m (.lst ((acc ++ (List.range b).map fun f => f :: u).map pairD))) := by
  have hb := g.b16
  have hr : range1I (consM (ixM (varM 0) (conM (.int 0))) nilM) [some (eR b S M), some (.loc lf), some (.loc m), some (eL u), y4, y5, y6] T = .ok ⟨(List.range b).map eN, []⟩ T := range1_eq (by simp) (by omega)
  have e := lcM_map (g := nameG 4) (c := yesB) (e := tupM (consM (addM (blM lenV (consM (varM 3) nilM)) (conM (.int 1))) (consM (addM (tupM (consM (varM 4) nilM)) (varM 3)) nilM))) (vs := [4]) hr (fun x => pairD (unN x :: u)) gok_nil (by rw [sizeLine_eq]; simp; omega) (fun x hx acc => by
    obtain ⟨f, hf, rfl⟩ := List.mem_map.mp hx
    exact ⟨_, rfl, rfl, pair_elem rfl rfl hu⟩)
  have hmap : ((List.range b).map eN).map (fun x => pairD (unN x :: u)) = ((List.range b).map fun f => f :: u).map pairD := by rw [List.map_map, List.map_map]; rfl
  rw [hmap] at e
  refine expr_nx (d := .non) ?_
  unfold lmM
  simp only [varM, List.getElem?_cons_succ, List.getElem?_cons_zero, Res.bind_ok, hm, consM, nilM]
  rw [e]
  simp only [Res.bind_ok, extV, at_len, List.getElem?_append_left (lt_old hm), hm, List.getElem?_cons_zero]
  rw [if_pos (by simp; omega), List.map_append]
theorem menu_loop {b : Nat} {S : List (List Nat)} {M : List Nat} (g : Good b S M) {lf m : Nat} {ts : List (List Nat)} {y4 y5 y6 : Option D} (hlm : lf < m) : ∀ (us acc : List (List Nat)) (y3 : Option D) (T : Store), T[lf]? = some (.lst (ts.map eL)) → T[m]? = some (.lst (acc.map pairD)) → (∀ u ∈ us, u.length ≤ 1000) → acc.length + b * us.length ≤ sizeLine →
    ∃ z T', forGo [(lf, .lst (ts.map eL))] (nameG 3) menuB (us.map eL) [some (eR b S M), some (.loc lf), some (.loc m), y3, y4, y5, y6] T = .ok .nx [some (eR b S M), some (.loc lf), some (.loc m), z, y4, y5, y6] T' ∧ Gr m T T' ∧ T'[m]? = some (.lst ((acc ++ more b us).map pairD))
  | [], acc, y3, T, hl, hm, _, _ => ⟨y3, T, forGo_nil (gok_one.mpr hl), Gr.refl (Nat.le_of_lt (lt_old hm)), by simpa [more] using hm⟩
  | u :: us, acc, y3, T, hl, hm, hu, hz => by
    have hml := lt_old hm
    rw [List.length_cons, Nat.mul_add, Nat.mul_one] at hz
    have e1 := menu_step g (lf := lf) (y4 := y4) (y5 := y5) (y6 := y6) hm (hu u (List.mem_cons_self ..)) (by omega)
    have g1 : Gr m T ((T ++ [MO.lst (((List.range b).map fun f => f :: u).map pairD)]).set m (.lst ((acc ++ (List.range b).map fun f => f :: u).map pairD))) := (Gr.app (Nat.le_of_lt hml)).trans (Gr.set (by simp; omega) (Nat.le_refl _))
    obtain ⟨z, T', e2, g2, h2⟩ := menu_loop g (ts := ts) (y4 := y4) (y5 := y5) (y6 := y6) hlm us (acc ++ (List.range b).map fun f => f :: u) (some (eL u)) _ ((g1.at_ lf hlm).trans hl) (by rw [List.getElem?_set_self (by simp; omega)]) (fun v hv => hu v (List.mem_cons_of_mem _ hv)) (by simp; omega)
    refine ⟨z, T', ?_, g1.trans g2, ?_⟩
    · rw [List.map_cons]
      exact (forGo_cons (gok_one.mpr hl) rfl e1).trans e2
    · rw [h2, List.append_assoc]
      rfl
end Fx
namespace Fx
open PySem PySem.Spec PyProof.Rows L2
def unP : D → List Nat
  | .tup [_, d] => unL d
  | _ => []
@[simp] theorem unP_pair (w : List Nat) : unP (pairD w) = w := by simp [unP]
noncomputable abbrev goodC : BM := asB (gtM (gcM (callM 2 (F__law_kinds) (consM (varM 0) (consM (addM (varM 1) (lstM (consM (varM 3) nilM))) nilM)))) (callM 2 (F__law_kinds) (consM (varM 0) (consM (varM 1) nilM))))
theorem goodC_abs {F : FM} {R x : D} {xs : List D} {a c : Nat} {δ : En} {T : Store} {lf : Nat} (h0 : δ[0]? = some (some R)) (h1 : δ[1]? = some (some (.loc lf))) (h3 : δ[3]? = some (some x)) (hl : T[lf]? = some (.lst xs)) (hz : xs.length + 1 ≤ sizeLine)
    (k1 : F [R, .loc lf] T = .ok (eN a) T) (k2 : F [R, .loc (T.length + 1)] (T ++ [MO.lst [x], MO.lst (xs ++ [x])]) = .ok (eN c) (T ++ [MO.lst [x], MO.lst (xs ++ [x])])) :
    asB (gtM (gcM (callM 2 F (consM (varM 0) (consM (addM (varM 1) (lstM (consM (varM 3) nilM))) nilM)))) (callM 2 F (consM (varM 0) (consM (varM 1) nilM)))) δ T = .ok (decide (a < c)) T := by
  have one : ([x] : List D).length ≤ sizeLine := by show 1 ≤ sizeLine; omega
  have a1 : lstM (consM (varM 3) nilM) δ T = .ok (.loc T.length) (T ++ [MO.lst [x]]) := by
    unfold lstM
    simp only [consM, nilM, varM, h3, Res.bind_ok]
    rw [if_pos one]
  have v1 : varM 1 δ T = .ok (.loc lf) T := by simp only [varM, h1]
  have a2 : addM (varM 1) (lstM (consM (varM 3) nilM)) δ T = .ok (.loc (T.length + 1)) (T ++ [MO.lst [x], MO.lst (xs ++ [x])]) := by
    unfold addM bin2
    rw [v1, Res.bind_ok, a1]
    simp only [Res.bind_ok, addV, at_old hl, at_len, List.getElem?_cons_zero]
    rw [if_pos (show xs.length + [x].length ≤ sizeLine from hz)]
    simp only [List.length_append, List.length_singleton, List.append_assoc, List.cons_append, List.nil_append]
  have v0 : ∀ T, varM 0 δ T = .ok R T := fun T => by simp only [varM, h0]
  have e1 : gcM (callM 2 F (consM (varM 0) (consM (addM (varM 1) (lstM (consM (varM 3) nilM))) nilM))) δ T = .ok (eN c) T := by
    refine gcM_eq (r := .ok (eN c) (T ++ [MO.lst [x], MO.lst (xs ++ [x])])) ?_ (gc_val lows_int)
    simp only [callM, consM, nilM, v0, a2, Res.bind_ok, List.length_cons, List.length_nil, Nat.zero_add, Nat.reduceAdd, if_true]
    exact k2
  have e2 : callM 2 F (consM (varM 0) (consM (varM 1) nilM)) δ T = .ok (eN a) T := by
    simp only [callM, consM, nilM, v0, v1, Res.bind_ok, List.length_cons, List.length_nil, Nat.zero_add, Nat.reduceAdd, if_true]
    exact k1
  simp only [asB, gtM, bin2, e1, e2, Res.bind_ok]
  simp
theorem goodC_eq {b : Nat} {S : List (List Nat)} {M : List Nat} (g : Good b S M) {ts : List (List Nat)} {w : List Nat} (hts : ∀ u ∈ ts, Over b u) (hw : Over b w) (hn : ts.length ≤ 999) {δ : En} {T : Store} {lf : Nat} (h0 : δ[0]? = some (some (eR b S M))) (h1 : δ[1]? = some (some (.loc lf))) (h3 : δ[3]? = some (some (eL w))) (hl : T[lf]? = some (.lst (ts.map eL))) :
    goodC δ T = .ok (decide (kindsT S M ts < kindsT S M (ts ++ [w]))) T := by
  have e : (ts ++ [w]).map eL = ts.map eL ++ [eL w] := by rw [List.map_append]; rfl
  refine goodC_abs h0 h1 h3 hl (by rw [List.length_map, sizeLine_eq]; omega) (F_kinds g hts (by omega) (by simp only [seqOf, hl])) (F_kinds g (ts := ts ++ [w]) (fun u hu => ?_) (by rw [List.length_append, List.length_singleton]; omega) ?_)
  · rcases List.mem_append.mp hu with q | q
    · exact hts u q
    · rw [List.mem_singleton.mp q]; exact hw
  · rw [e]
    simp only [seqOf, at_len_add, List.getElem?_cons_succ, List.getElem?_cons_zero]
theorem filterMap_words (p : List Nat → Bool) : ∀ ws : List (List Nat), (ws.map pairD).filterMap (fun x => if p (unP x) = true then some (eL (unP x)) else none) = (ws.filter p).map eL
  | [] => rfl
  | w :: ws => by
    rw [List.map_cons, List.filterMap_cons, unP_pair]
    by_cases h : p w = true
    · rw [if_pos h, List.filter_cons_of_pos h, List.map_cons, filterMap_words p ws]
    · rw [if_neg h, List.filter_cons_of_neg h, filterMap_words p ws]
theorem more_len {b : Nat} : ∀ ts : List (List Nat), (more b ts).length = b * ts.length
  | [] => by simp [more]
  | t :: ts => by
    have ih := more_len (b := b) ts
    unfold more at ih ⊢
    rw [List.flatMap_cons, List.length_append, ih, List.length_cons, Nat.mul_add]
    simp
    omega
theorem over_more {b : Nat} {ts : List (List Nat)} (h : ∀ u ∈ ts, Over b u) : ∀ w ∈ more b ts, Over b w := fun w hw f hf => by
  obtain ⟨t, ht, x, hx, rfl⟩ := mem_more.mp hw
  rcases List.mem_cons.mp hf with rfl | hf
  · exact hx
  · exact h t ht f hf
theorem good_lc {b : Nat} {S : List (List Nat)} {M : List Nat} (g : Good b S M) {ts : List (List Nat)} (hts : ∀ u ∈ ts, Over b u) (hn : ts.length ≤ 100) {T : Store} {lf m : Nat} {y3 y4 y5 y6 : Option D} (hl : T[lf]? = some (.lst (ts.map eL))) (hm : T[m]? = some (.lst ((more b ts).map pairD))) :
    lcM (seqI (blM sortedV (consM (varM 2) nilM))) (tupG 2 (consG (nameG 6) (consG (nameG 3) nilG))) goodC (varM 3) [6, 3] [some (eR b S M), some (.loc lf), some (.loc m), y3, y4, y5, y6] T = .ok (.loc (T.length + 1)) (T ++ [.lst ((srtP (more b ts)).map pairD), .lst ((goodT b S M ts).map eL)]) := by
  have hb := g.b16
  have hlen : (srtP (more b ts)).length ≤ 1600 := by
    unfold srtP
    rw [List.length_mergeSort, more_len]
    have : b * ts.length ≤ 16 * 100 := Nat.mul_le_mul hb hn
    omega
  have hi : seqI (blM sortedV (consM (varM 2) nilM)) [some (eR b S M), some (.loc lf), some (.loc m), y3, y4, y5, y6] T = .ok ⟨(srtP (more b ts)).map pairD, [(T.length, .lst ((srtP (more b ts)).map pairD))]⟩ (T ++ [.lst ((srtP (more b ts)).map pairD)]) := by
    unfold seqI
    simp only [blM, consM, nilM, varM, List.getElem?_cons_succ, List.getElem?_cons_zero, Res.bind_ok, sortedV_P hm, at_len]
  have e := lcM_filter (g := tupG 2 (consG (nameG 6) (consG (nameG 3) nilG))) (c := goodC) (e := varM 3) (vs := [6, 3]) hi (fun x => if (decide (kindsT S M ts < kindsT S M (ts ++ [unP x]))) = true then some (eL (unP x)) else none) (gok_one.mpr (by simp)) (by rw [sizeLine_eq, List.length_map]; omega) (fun x hx acc => by
    obtain ⟨w, hw, rfl⟩ := List.mem_map.mp hx
    have hc := goodC_eq g hts (over_more hts w (srtP_mem.mp hw)) (by omega) (δ := [some (eR b S M), some (.loc lf), some (.loc m), some (eL w), y4, y5, some (eN w.length)]) (T := (T ++ [.lst ((srtP (more b ts)).map pairD)]) ++ [.lst acc]) rfl rfl rfl (at_old (at_old hl))
    refine ⟨[some (eR b S M), some (.loc lf), some (.loc m), some (eL w), y4, y5, some (eN w.length)], rfl, ?_⟩
    rw [unP_pair]
    by_cases h : kindsT S M ts < kindsT S M (ts ++ [w])
    · rw [if_pos (by simpa using h)]
      rw [decide_eq_true h] at hc
      exact ⟨hc, rfl⟩
    · rw [if_neg (by simpa using h)]
      rw [decide_eq_false h] at hc
      exact hc)
  rw [filterMap_words (fun w => decide (kindsT S M ts < kindsT S M (ts ++ [w])))] at e
  rw [e]
  simp [goodT]
end Fx
namespace Fx
open PySem PySem.Spec PyProof.Rows L2
noncomputable abbrev tailsB : SM := seqS (setS 2 (lstM nilM)) (seqS (forS (seqI (varM 1)) (nameG 3) menuB) (seqS (setS 5 (lcM (seqI (blM sortedV (consM (varM 2) nilM))) (tupG 2 (consG (nameG 6) (consG (nameG 3) nilG))) goodC (varM 3) [6, 3])) (exprS (lmM appV (varM 1) (consM (ixM (varM 5) (conM (.int 0))) nilM)))))
theorem app_first {δ : En} {T : Store} {lf lg : Nat} {xs : List D} {x : D} {r : List D} (h1 : δ[1]? = some (some (.loc lf))) (h5 : δ[5]? = some (some (.loc lg))) (hl : T[lf]? = some (.lst xs)) (hg : T[lg]? = some (.lst (x :: r))) (hz : xs.length < sizeLine) :
    exprS (lmM appV (varM 1) (consM (ixM (varM 5) (conM (.int 0))) nilM)) δ T = .ok .nx δ (T.set lf (.lst (xs ++ [x]))) := by
  have v1 : varM 1 δ T = .ok (.loc lf) T := by simp only [varM, h1]
  have v5 : varM 5 δ T = .ok (.loc lg) T := by simp only [varM, h5]
  have a : ixM (varM 5) (conM (.int 0)) δ T = .ok x T := by
    simp [ixM, bin2, varM, h5, conM, hg, atI]
  refine expr_nx (d := .non) ?_
  unfold lmM
  simp only [v1, Res.bind_ok, hl, consM, nilM, a, appV]
  rw [if_pos hz]
theorem tails_body {b : Nat} {S : List (List Nat)} {M : List Nat} (L : LeastOk b S M) {ts : List (List Nat)} (t : TOk b S M ts) (hk : kindsT S M ts < S.length) {T : Store} {lf : Nat} {y2 y3 y4 y5 y6 : Option D} (hl : T[lf]? = some (.lst (ts.map eL))) :
    ∃ z2 z3 z4 z5 z6 T', tailsB [some (eR b S M), some (.loc lf), y2, y3, y4, y5, y6] T = .ok .nx [some (eR b S M), some (.loc lf), z2, z3, z4, z5, z6] T' ∧ Gr lf T T' ∧ T'[lf]? = some (.lst ((ts ++ [nextT b S M ts]).map eL)) := by
  have g := L.g
  have h60 := g.n60
  have hb := g.b16
  have hfew := t.few
  have hlt := lt_old hl
  have hn : ts.length ≤ 60 := by omega
  have e1 : setS 2 (lstM nilM) [some (eR b S M), some (.loc lf), y2, y3, y4, y5, y6] T = .ok .nx [some (eR b S M), some (.loc lf), some (.loc T.length), y3, y4, y5, y6] (T ++ [MO.lst []]) := set_nx (by
    unfold lstM
    simp only [nilM, Res.bind_ok]
    rw [if_pos (show ([] : List D).length ≤ sizeLine from Nat.zero_le _)])
  obtain ⟨z3, T2, e2, g2, h2⟩ := menu_loop g (lf := lf) (m := T.length) (ts := ts) (y4 := y4) (y5 := y5) (y6 := y6) hlt ts [] y3 (T ++ [MO.lst []]) (at_old hl) (by simp) (fun u hu => by have := t.short u hu; omega) (by
    rw [sizeLine_eq]
    have : b * ts.length ≤ 16 * 60 := Nat.mul_le_mul hb hn
    simp only [List.length_nil]
    omega)
  rw [List.nil_append] at h2
  have hl2 : T2[lf]? = some (.lst (ts.map eL)) := (g2.at_ lf hlt).trans (at_old hl)
  have hi : seqI (varM 1) [some (eR b S M), some (.loc lf), some (.loc T.length), y3, y4, y5, y6] (T ++ [MO.lst []]) = .ok ⟨ts.map eL, [(lf, .lst (ts.map eL))]⟩ (T ++ [MO.lst []]) := by
    unfold seqI
    simp only [varM, List.getElem?_cons_succ, List.getElem?_cons_zero, Res.bind_ok, at_old hl]
  have e3 := good_lc g t.over (by omega) (y3 := z3) (y4 := y4) (y5 := y5) (y6 := y6) hl2 h2
  obtain ⟨r, hr⟩ := goodT_some L t hk
  have e4 := app_first (δ := [some (eR b S M), some (.loc lf), some (.loc T.length), z3, y4, some (.loc (T2.length + 1)), y6]) (T := T2 ++ [.lst ((srtP (more b ts)).map pairD), .lst ((goodT b S M ts).map eL)]) (lg := T2.length + 1) (x := eL (nextT b S M ts)) (r := r.map eL) rfl rfl (at_old hl2) (by rw [at_len_add, hr]; rfl) (by rw [List.length_map, sizeLine_eq]; omega)
  have hll : lf ≤ T2.length := by have := g2.le'; omega
  refine ⟨_, _, _, _, _, _, (seq_nx e1).trans <| (seq_nx (for_nx hi e2)).trans <| (seq_nx (set_nx e3)).trans e4, ?_, ?_⟩
  · have a1 : Gr lf T (T ++ [MO.lst []]) := Gr.app (by omega)
    have a2 : Gr lf (T ++ [MO.lst []]) T2 := g2.less (by omega)
    exact a1.trans <| a2.trans <| (Gr.app hll).trans (Gr.set (by simp; omega) (Nat.le_refl _))
  · rw [List.getElem?_set_self (by have := lt_old hl2; simp; omega), List.map_append]
    rfl
end Fx
namespace Fx
open PySem PySem.Spec PyProof.Rows L2
noncomputable abbrev tailsC : BM := asB (ltM (callM 2 (F__law_kinds) (consM (varM 0) (consM (varM 1) nilM))) (blM lenV (consM (ixM (varM 0) (conM (.int 1))) nilM)))
theorem tailsC_abs {F : FM} {R d1 d2 : D} {ss : List D} {a : Nat} {δ : En} {T : Store} {lf : Nat} (hR : R = .tup [d1, .tup ss, d2]) (h0 : δ[0]? = some (some R)) (h1 : δ[1]? = some (some (.loc lf)))
    (k1 : F [R, .loc lf] T = .ok (eN a) T) : asB (ltM (callM 2 F (consM (varM 0) (consM (varM 1) nilM))) (blM lenV (consM (ixM (varM 0) (conM (.int 1))) nilM))) δ T = .ok (decide (a < ss.length)) T := by
  have v0 : ∀ T, varM 0 δ T = .ok R T := fun T => by simp only [varM, h0]
  have v1 : varM 1 δ T = .ok (.loc lf) T := by simp only [varM, h1]
  have e2 : callM 2 F (consM (varM 0) (consM (varM 1) nilM)) δ T = .ok (eN a) T := by
    simp only [callM, consM, nilM, v0, v1, Res.bind_ok, List.length_cons, List.length_nil, Nat.zero_add, Nat.reduceAdd, if_true]
    exact k1
  have e3 : blM lenV (consM (ixM (varM 0) (conM (.int 1))) nilM) δ T = .ok (eN ss.length) T := by
    subst hR
    simp [varM, h0]
  simp only [asB, ltM, bin2, e2, e3, Res.bind_ok]
  simp
theorem tails_while {b : Nat} {S : List (List Nat)} {M : List Nat} (L : LeastOk b S M) {lf : Nat} {T0 : Store} (h0 : T0[lf]? = some (.lst ([[]].map eL))) (hf : lf ≤ T0.length) (y2 y3 y4 y5 y6 : Option D) :
    ∃ z2 z3 z4 z5 z6 T', whileS tailsC tailsB [some (eR b S M), some (.loc lf), y2, y3, y4, y5, y6] T0 = .ok .nx [some (eR b S M), some (.loc lf), z2, z3, z4, z5, z6] T' ∧ Gr lf T0 T' ∧ T'[lf]? = some (.lst ((tailsF b S M (S.length + 1) [[]]).map eL)) := by
  have h60 := L.g.n60
  refine whileS_rule (c := tailsC) (b := tailsB) (Q := fun r => ∃ z2 z3 z4 z5 z6 T', r = .ok .nx [some (eR b S M), some (.loc lf), z2, z3, z4, z5, z6] T' ∧ Gr lf T0 T' ∧ T'[lf]? = some (.lst ((tailsF b S M (S.length + 1) [[]]).map eL)))
    (fun n δ T => ∃ ts z2 z3 z4 z5 z6, δ = [some (eR b S M), some (.loc lf), z2, z3, z4, z5, z6] ∧ TOk b S M ts ∧ n = S.length - kindsT S M ts ∧ Gr lf T0 T ∧ T[lf]? = some (.lst (ts.map eL)) ∧ tailsF b S M (S.length + 1) ts = tailsF b S M (S.length + 1) [[]]) ?_ (S.length - kindsT S M [[]]) _ _
    ⟨[[]], y2, y3, y4, y5, y6, rfl, TOk.start L.g.v.pos, rfl, Gr.refl hf, h0, rfl⟩
  rintro n δ T ⟨ts, z2, z3, z4, z5, z6, rfl, t, rfl, gr, hl, et⟩
  have hfew := t.few
  have hle := kindsT_le (S := S) (M := M) (ts := ts)
  have hc : tailsC [some (eR b S M), some (.loc lf), z2, z3, z4, z5, z6] T = .ok (decide (kindsT S M ts < S.length)) T := by
    have := tailsC_abs (F := F__law_kinds) (R := eR b S M) (ss := S.map eL) (δ := [some (eR b S M), some (.loc lf), z2, z3, z4, z5, z6]) rfl rfl rfl (F_kinds L.g t.over (by omega) (d := .loc lf) (st := T) (by simp only [seqOf, hl]))
    rw [List.length_map] at this
    exact this
  by_cases hk : kindsT S M ts < S.length
  · refine .inr ⟨T, by rw [hc, decide_eq_true hk], ?_⟩
    obtain ⟨w2, w3, w4, w5, w6, T', e, g2, h2⟩ := tails_body L t hk (y2 := z2) (y3 := z3) (y4 := z4) (y5 := z5) (y6 := z6) hl
    obtain ⟨t2, _, hgt, _⟩ := t.next L hk
    rw [e]
    refine ⟨S.length - kindsT S M (ts ++ [nextT b S M ts]), by omega, _, w2, w3, w4, w5, w6, rfl, t2, rfl, gr.trans g2, h2, ?_⟩
    rw [← et]
    have := tailsF_fuel L (S.length + 1) (S.length + 2) ts t (by omega) (by omega)
    rw [this]
    conv => rhs; unfold tailsF
    rw [if_pos hk]
  · refine .inl ⟨T, by rw [hc, decide_eq_false hk], _, _, _, _, _, T, rfl, gr, ?_⟩
    rw [← et]
    conv => rhs; unfold tailsF
    rw [if_neg hk]
    exact hl
theorem F_law_tails {b : Nat} {S : List (List Nat)} {M : List Nat} (L : LeastOk b S M) {st : Store} : F__law_tails [eR b S M] st = .ok (.tup ((tailsW b S M).map eL)) st := by
  have lows : D.lows st.length (.tup ((tailsW b S M).map eL)) = true := by
    rw [lows_tup]
    refine lowsL_all fun d hd => ?_
    obtain ⟨w, _, rfl⟩ := List.mem_map.mp hd
    exact eL_lows _
  have e1 : asB (eqM (blM lenV (consM (ixM (varM 0) (conM (.int 1))) nilM)) (conM (.int 1))) [some (eR b S M), none, none, none, none, none, none] st = .ok (decide (S.length = 1)) st := by
    simp
    omega
  unfold F__law_tails gcF
  by_cases h : S.length = 1
  · rw [decide_eq_true h] at e1
    have ew : tailsW b S M = [] := by unfold tailsW; rw [if_pos h]
    rw [run_rt (N := 7) (m := m__law_tails) (ds := [eR b S M]) (d := .tup []) (seq_rt (if_rt e1 (by simp))), ew]
    exact gc_id (by simp)
  · rw [decide_eq_false h] at e1
    have e2 : ifS (asB (eqM (blM lenV (consM (ixM (varM 0) (conM (.int 1))) nilM)) (conM (.int 1)))) (retS (tupM nilM)) skipS [some (eR b S M), none, none, none, none, none, none] st = .ok .nx [some (eR b S M), none, none, none, none, none, none] st := by
      unfold ifS
      rw [e1]
      rfl
    have e3 : lstM (consM (tupM nilM) nilM) [some (eR b S M), none, none, none, none, none, none] st = .ok (.loc st.length) (st ++ [.lst [eL []]]) := by
      simp [sizeLine_eq]
    obtain ⟨z2, z3, z4, z5, z6, T', e4, g4, h4⟩ := tails_while L (lf := st.length) (T0 := st ++ [.lst [eL []]]) (by simp) (by simp) none none none none none
    have e5 : gcM (blM tupleV (consM (blM sortedV (consM (varM 1) nilM)) nilM)) [some (eR b S M), some (.loc st.length), z2, z3, z4, z5, z6] T' = .ok (.tup ((tailsW b S M).map eL)) T' := by
      refine gcM_eq (r := .ok (.tup ((tailsW b S M).map eL)) (T' ++ [.lst ((srtW (tailsF b S M (S.length + 1) [[]])).map eL)])) ?_ (gc_val ?_)
      · simp only [blM, consM, nilM, varM, List.getElem?_cons_succ, List.getElem?_cons_zero, Res.bind_ok, sortedV_W h4, tupleV, seqOf, at_len]
        unfold tailsW
        rw [if_neg h]
      · exact lows_mono (by have := g4.le'; omega) lows
    rw [run_rt (N := 7) (m := m__law_tails) (ds := [eR b S M]) ((seq_nx e2).trans <| (seq_nx (set_nx e3)).trans <| (seq_nx e4).trans (ret_nx e5))]
    exact gc_gr ((Gr.app (Nat.le_refl _)).trans g4) lows
end Fx
namespace Fx
open PySem PySem.Spec PyProof.Rows L2
/-! ### numbering the pairs of kinds and a column -/
theorem zip_ker {κ : Type} [DecidableEq κ] {n : Nat} {X : List κ} {ys : List Nat} {Z : List (List Nat)} (hX : X.length = n) (hy : ys.length = n) (hZ : Z = List.zipWith (fun a c => [a, c]) (numF X) ys) {i j : Nat} (hi : i < n) (hj : j < n) : Z[i]? = Z[j]? ↔ X[i]? = X[j]? ∧ ys[i]? = ys[j]? := by
  have hn : (numF X).length = n := by rw [numF_len, hX]
  have a : ∀ k, k < n → Z[k]? = some [(numF X).getD k 0, ys.getD k 0] := fun k hk => by
    rw [hZ, List.getElem?_zipWith, getD_of (l := numF X) (by omega), getD_of (l := ys) (by omega)]
  rw [a i hi, a j hj, ← numF_ker (by omega) (by omega), getD_of (l := numF X) (i := i) (by omega), getD_of (l := numF X) (i := j) (by omega), getD_of (l := ys) (i := i) (by omega), getD_of (l := ys) (i := j) (by omega)]
  simp only [Option.some.injEq, List.cons.injEq, and_true]
theorem dedF_ker_num {κ κ' : Type} [DecidableEq κ] [DecidableEq κ'] {n : Nat} {X : List κ} {Y : List κ'} (hX : X.length = n) (hY : Y.length = n) (h : ∀ i j, i < n → j < n → (X[i]? = X[j]? ↔ Y[i]? = Y[j]?)) : numF X = numF Y := by
  by_cases hn : n = 0
  · subst hn
    rw [List.length_eq_zero_iff.mp hX, List.length_eq_zero_iff.mp hY]
    rfl
  · have h0 : 0 < Y.length := by omega
    have e : Y = X.map fun x => Y.getD (X.idxOf x) Y[0] := by
      apply List.ext_getElem
      · simp; omega
      · intro i h1 h2
        simp only [List.getElem_map]
        have hi : i < n := by omega
        have m : X[i]'(by omega) ∈ X := List.getElem_mem _
        have l := List.idxOf_lt_length_of_mem m
        have e1 := idxOf_getElem? m
        have := (h (X.idxOf (X[i]'(by omega))) i (by omega) hi).mp (by rw [e1]; simp [hX, hi])
        rw [List.getD_eq_getElem?_getD, this]
        simp [h1]
    have inj : ∀ a ∈ X, ∀ c ∈ X, Y.getD (X.idxOf a) Y[0] = Y.getD (X.idxOf c) Y[0] → a = c := fun a ha c hc q => by
      have la := List.idxOf_lt_length_of_mem ha
      have lc := List.idxOf_lt_length_of_mem hc
      rw [getD_lt (by omega), getD_lt (by omega)] at q
      have := (h (X.idxOf a) (X.idxOf c) (by omega) (by omega)).mpr (by rw [List.getElem?_eq_getElem (by omega), List.getElem?_eq_getElem (by omega), q])
      rw [idxOf_getElem? ha, idxOf_getElem? hc] at this
      exact Option.some.inj this
    rw [e]
    have key := dedF_map_on (fun x => Y.getD (X.idxOf x) Y[0]) X [] (fun a ha c hc q => inj a (by simpa using ha) c (by simpa using hc) q)
    rw [List.map_nil] at key
    unfold numF
    rw [key, List.map_map]
    refine List.map_congr_left fun x hx => ?_
    simp only [Function.comp_apply]
    have nd := dedF_nodup X [] (by simp)
    have hxd := dedF_self X x hx
    have l := List.idxOf_lt_length_of_mem hxd
    have ex := List.getElem_idxOf l
    have ndm : ((dedF [] X).map fun x => Y.getD (X.idxOf x) Y[0]).Nodup := by
      unfold List.Nodup
      rw [List.pairwise_map]
      refine List.Pairwise.imp_of_mem ?_ nd
      intro a c ha hc hne q
      have ha2 : a ∈ X := by simpa using (dedF_mem X []).mp ha
      have hc2 : c ∈ X := by simpa using (dedF_mem X []).mp hc
      exact hne (inj a ha2 c hc2 q)
    have := ndm.idxOf_getElem ((dedF [] X).idxOf x) (by simpa using l)
    simp only [List.getElem_map, ex] at this
    exact this.symm
/-- the kinds behind one more word -/
theorem kinds_next {S : List (List Nat)} {M : List Nat} {ts : List (List Nat)} {w : List Nat} : numF (List.zipWith (fun a c => [a, c]) (numF (rowsT S M ts)) (col S M w)) = numF (rowsT S M (ts ++ [w])) := by
  have hc : (col S M w).length = S.length := by simp [col]
  have ca : ∀ s, s < S.length → (col S M w)[s]? = some (beh S M s w) := fun s hs => by simp [col, hs]
  refine dedF_ker_num (n := S.length) (by simp [numF_len, rowsT_len, col]) rowsT_len fun i j hi hj => ?_
  rw [zip_ker rowsT_len hc rfl hi hj, rowsT_ker hi hj, rowsT_ker hi hj, ca i hi, ca j hj, Option.some.injEq]
  constructor
  · rintro ⟨h1, h2⟩ u hu
    rcases List.mem_append.mp hu with q | q
    · exact h1 u q
    · rw [List.mem_singleton.mp q]; exact h2
  · intro h
    exact ⟨fun u hu => h u (List.mem_append_left _ hu), h w (by simp)⟩
end Fx
namespace Fx
open PySem PySem.Spec PyProof.Rows L2
/-! ### next_tail -/
theorem zipL_nat : ∀ (xs ys : List Nat), zipL (xs.map eN) (ys.map eN) = (List.zipWith (fun a c => [a, c]) xs ys).map eL
  | [], _ => by simp [zipL]
  | _ :: _, [] => by simp [zipL]
  | x :: xs, y :: ys => by
    have := zipL_nat xs ys
    unfold zipL at this ⊢
    rw [List.map_cons, List.map_cons, List.zipWith_cons_cons, this, List.zipWith_cons_cons, List.map_cons]
    rfl
/-- numbering the pairs -/
theorem num_zip {S : List (List Nat)} {M : List Nat} {ts : List (List Nat)} {w : List Nat} (h0 : 0 < S.length) (h60 : S.length ≤ 60) {i j lk ll : Nat} {δ : En} {T : Store} (hi : δ[i]? = some (some (.loc lk))) (hj : δ[j]? = some (some (.loc ll))) (hk : T[lk]? = some (.lst ((numF (rowsT S M ts)).map eN))) (hl : T[ll]? = some (.lst ((col S M w).map eN))) :
    gcM (callM 1 (F_numbered) (consM (lzipM (consM (varM i) (consM (varM j) nilM))) nilM)) δ T = .ok (.loc T.length) (T ++ [.lst ((numF (rowsT S M (ts ++ [w]))).map eN)]) := by
  have e1 : lzipM (consM (varM i) (consM (varM j) nilM)) δ T = .ok (.loc T.length) (T ++ [MO.lst ((List.zipWith (fun a c => [a, c]) (numF (rowsT S M ts)) (col S M w)).map eL)]) := by
    unfold lzipM
    simp only [consM, nilM, varM, hi, hj, Res.bind_ok, hk, hl, zipL_nat]
  have hlen : (List.zipWith (fun a c => [a, c]) (numF (rowsT S M ts)) (col S M w)).length = S.length := by simp [numF_len, rowsT_len, col]
  have kn := kinds_next (S := S) (M := M) (ts := ts) (w := w)
  generalize List.zipWith (fun a c => [a, c]) (numF (rowsT S M ts)) (col S M w) = Z at *
  cases Z with
  | nil => simp at hlen; omega
  | cons x0 nss =>
    have e2 := F_numbered_T (d := .loc T.length) (x0 := x0) (nss := nss) (st := T ++ [MO.lst ((x0 :: nss).map eL)]) (by simp only [seqOf, at_len, List.getElem?_cons_zero]) (by rw [hlen]; omega)
    rw [kn] at e2
    refine gcM_eq (r := .ok (.loc (T.length + 1)) (T ++ [MO.lst ((x0 :: nss).map eL), .lst ((numF (rowsT S M (ts ++ [w]))).map eN)])) ?_ (gc_loc (k := 1) rfl ?_)
    · simp only [callM, consM, nilM, Res.bind_ok, e1, List.length_cons, List.length_nil, Nat.zero_add, if_true] at e2 ⊢
      rw [e2]
      simp
    · show D.lowsL T.length _ = true
      refine lowsL_all fun d hd => ?_
      obtain ⟨n, _, rfl⟩ := List.mem_map.mp hd
      exact lows_int
/-- the greatest kind -/
theorem max_num {κ : Type} [DecidableEq κ] {X : List κ} {l : Nat} {T : Store} (h : 0 < X.length) (hl : T[l]? = some (.lst ((numF X).map eN))) : maxV [.loc l] T = .ok (.int ((cnt X : Int) - 1)) T := by
  obtain ⟨h1, h2⟩ := numF_max X h
  have hp := cnt_pos h
  unfold maxV
  simp only [hl, intsOf_eN]
  rw [if_pos (by rw [List.length_map, numF_len]; exact h)]
  have : ((cnt X : Int) - 1) = maxI ((numF X).map fun (n : Nat) => (n : Int)) := maxI_ok (List.mem_map.mpr ⟨cnt X - 1, h2, by omega⟩) fun y hy => by
    obtain ⟨n, hn, rfl⟩ := List.mem_map.mp hy
    have := h1 n hn
    omega
  rw [this]
/-- whether a word parts more -/
theorem parts_eq {S : List (List Nat)} {M : List Nat} {ts : List (List Nat)} {w : List Nat} (h0 : 0 < S.length) (h60 : S.length ≤ 60) {lk ll : Nat} {δ : En} {T : Store} (hi : δ[2]? = some (some (.loc lk))) (hj : δ[7]? = some (some (.loc ll))) (hk : T[lk]? = some (.lst ((numF (rowsT S M ts)).map eN))) (hl : T[ll]? = some (.lst ((col S M w).map eN))) :
    asB (gtM (gcM (blM maxV (consM (gcM (callM 1 (F_numbered) (consM (lzipM (consM (varM 2) (consM (varM 7) nilM))) nilM))) nilM))) (blM maxV (consM (varM 2) nilM))) δ T = .ok (decide (kindsT S M ts < kindsT S M (ts ++ [w]))) T := by
  have e1 := num_zip h0 h60 hi hj hk hl
  generalize gcM (callM 1 (F_numbered) (consM (lzipM (consM (varM 2) (consM (varM 7) nilM))) nilM)) = m at e1
  have e2 : gcM (blM maxV (consM m nilM)) δ T = .ok (.int ((kindsT S M (ts ++ [w]) : Int) - 1)) T := by
    refine gcM_eq (r := .ok (.int ((kindsT S M (ts ++ [w]) : Int) - 1)) (T ++ [.lst ((numF (rowsT S M (ts ++ [w]))).map eN)])) ?_ (gc_val lows_int)
    simp only [blM, consM, nilM, e1, Res.bind_ok]
    exact max_num (by rw [rowsT_len]; exact h0) (by simp)
  have e3 : blM maxV (consM (varM 2) nilM) δ T = .ok (.int ((kindsT S M ts : Int) - 1)) T := by
    simp only [blM, consM, nilM, varM, hi, Res.bind_ok]
    exact max_num (by rw [rowsT_len]; exact h0) hk
  simp only [asB, gtM, bin2, e2, e3, Res.bind_ok]
  simp
end Fx
namespace Fx
open PySem PySem.Spec PyProof.Rows L2
/-! ### the dict of columns -/
def colsOf (q : List (List Nat × Nat)) : List (List Key × D) := q.map fun p => (p.1.map kI, .loc p.2)
structure Cols (S : List (List Nat)) (M : List Nat) (q : List (List Nat × Nat)) (T : Store) : Prop where
  at_ : ∀ p ∈ q, T[p.2]? = some (.lst ((col S M p.1).map eN))
theorem getK_cols {w : List Nat} {l : Nat} : ∀ {q : List (List Nat × Nat)}, (q.map (·.1)).Nodup → (w, l) ∈ q → getK (colsOf q) (w.map kI) = some (.loc l)
  | [], _, h => by cases h
  | p :: q, nd, h => by
    rw [List.map_cons, List.nodup_cons] at nd
    unfold colsOf getK
    rw [List.map_cons, List.find?_cons]
    by_cases e : p.1 = w
    · have : (w, l) = p := by
        rcases List.mem_cons.mp h with h | h
        · exact h
        · exact absurd (List.mem_map.mpr ⟨(w, l), h, rfl⟩) (by rw [← e] at *; exact nd.1)
      subst this
      simp
    · have hne : ¬ (p.1.map kI = w.map kI) := fun x => e (kIL_inj x)
      have hm : (w, l) ∈ q := by
        rcases List.mem_cons.mp h with h | h
        · exact absurd (by rw [← h]) e
        · exact h
      rw [decide_eq_false hne]
      exact getK_cols nd.2 hm
theorem kTD_nat (w : List Nat) : kTD (w.map kI) = eL w := by
  unfold kTD
  rw [List.map_map]
  rfl
theorem flat_pairs {b : Nat} : ∀ ts : List (List Nat), ((ts.map eL).flatMap fun x => ((List.range b).map eN).map fun y => pairD (unN y :: unL x)) = (more b ts).map pairD
  | [] => rfl
  | t :: ts => by
    have ih := flat_pairs (b := b) ts
    unfold more at ih ⊢
    rw [List.map_cons, List.flatMap_cons, ih, List.flatMap_cons, List.map_append, unL_eL, List.map_map, List.map_map]
    rfl
theorem some_eq {b : Nat} {S : List (List Nat)} {M : List Nat} (g : Good b S M) {q : List (List Nat × Nat)} {lc : Nat} {T : Store} {y2 y3 y4 y5 y6 y7 y8 : Option D} (hl : T[lc]? = some (.dT (colsOf q))) (hw : ∀ p ∈ q, p.1.length ≤ 1000) (hq : q.length ≤ 100) :
    lockS 1 (setS 3 (lc2M (keysI (varM 1)) (nameG 4) yesB (range1I (consM (ixM (varM 0) (conM (.int 0))) nilM)) (nameG 5) yesB (tupM (consM (addM (blM lenV (consM (varM 4) nilM)) (conM (.int 1))) (consM (addM (tupM (consM (varM 5) nilM)) (varM 4)) nilM))) [4, 5] [5])) [some (eR b S M), some (.loc lc), y2, y3, y4, y5, y6, y7, y8] T =
      .ok .nx [some (eR b S M), some (.loc lc), y2, some (.loc T.length), y4, y5, y6, y7, y8] (T ++ [.lst ((more b (q.map (·.1))).map pairD)]) := by
  have hb := g.b16
  have hlt := lt_old hl
  have hk : keysI (varM 1) [some (eR b S M), some (.loc lc), y2, y3, y4, y5, y6, y7, y8] (T.set lc (.fT (colsOf q))) = .ok ⟨(q.map (·.1)).map eL, [(lc, .fT (colsOf q))]⟩ (T.set lc (.fT (colsOf q))) := by
    unfold keysI
    simp only [varM, List.getElem?_cons_succ, List.getElem?_cons_zero, Res.bind_ok, List.getElem?_set_self hlt]
    rw [if_pos]
    · congr 2
      unfold colsOf
      rw [List.map_map, List.map_map]
      exact List.map_congr_left fun p _ => kTD_nat p.1
    · rw [List.all_eq_true]
      intro x hx
      obtain ⟨p, hp, rfl⟩ := List.mem_map.mp hx
      have := hw p hp
      simp only [List.length_map, sizeLine_eq]
      exact decide_eq_true (by omega)
  have e := lc2M_map (im1 := range1I (consM (ixM (varM 0) (conM (.int 0))) nilM)) (g := nameG 4) (g1 := nameG 5) (c := yesB) (c1 := yesB) (e := tupM (consM (addM (blM lenV (consM (varM 4) nilM)) (conM (.int 1))) (consM (addM (tupM (consM (varM 5) nilM)) (varM 4)) nilM))) (vs := [4, 5]) (vs1 := [5]) hk (fun _ => (List.range b).map eN) (fun x y => pairD (unN y :: unL x)) (gok_one.mpr (by rw [List.getElem?_set_self hlt])) (by
      rw [flat_pairs, List.length_map, more_len, sizeLine_eq]
      have : b * (q.map (·.1)).length ≤ 16 * 100 := Nat.mul_le_mul hb (by simpa using hq)
      omega) (fun x hx acc => by
      obtain ⟨u, hu, rfl⟩ := List.mem_map.mp hx
      obtain ⟨p, hp, rfl⟩ := List.mem_map.mp hu
      have hpl := hw p hp
      refine ⟨_, [], rfl, rfl, range1_eq (by simp [wipeD]) (by omega), gok_nil, fun y hy acc2 => ?_⟩
      obtain ⟨f, hf, rfl⟩ := List.mem_map.mp hy
      refine ⟨_, rfl, rfl, ?_⟩
      have hz : 1 + p.1.length ≤ 16777216 := by omega
      simp [wipeD, sizeLine_eq]
      rw [if_pos (by omega)]
      simp)
  rw [flat_pairs] at e
  have back : (T.set lc (.fT (colsOf q)) ++ [MO.lst ((more b (q.map (·.1))).map pairD)]).set lc (.dT (colsOf q)) = T ++ [MO.lst ((more b (q.map (·.1))).map pairD)] := by
    rw [List.set_append_left _ _ (by simpa using hlt), List.set_set]
    congr 1
    apply List.ext_getElem?
    intro i
    by_cases hi : i = lc
    · subst hi; rw [List.getElem?_set_self hlt, hl]
    · rw [List.getElem?_set_ne (Ne.symm hi)]
  have hs : setS 3 (lc2M (keysI (varM 1)) (nameG 4) yesB (range1I (consM (ixM (varM 0) (conM (.int 0))) nilM)) (nameG 5) yesB (tupM (consM (addM (blM lenV (consM (varM 4) nilM)) (conM (.int 1))) (consM (addM (tupM (consM (varM 5) nilM)) (varM 4)) nilM))) [4, 5] [5]) [some (eR b S M), some (.loc lc), y2, y3, y4, y5, y6, y7, y8] (T.set lc (.fT (colsOf q))) = _ := set_nx e
  unfold lockS
  simp only [List.getElem?_cons_succ, List.getElem?_cons_zero, hl, MO.lock, hs, unlockR]
  rw [if_pos (by rw [List.getElem?_append_left (by simpa using hlt), List.getElem?_set_self hlt]), back]
  simp
end Fx
namespace Fx
open PySem PySem.Spec PyProof.Rows L2
theorem letter_eq {S : List (List Nat)} {M : List Nat} {b s f : Nat} {t : List Nat} (m : Mach b S.length S M) (hs : s < S.length) (hf : f < b) {q : List (List Nat × Nat)} {lc l : Nat} {T : Store} {δ : En} (h1 : δ[1]? = some (some (.loc lc))) (h4 : δ[4]? = some (some (eL (f :: t)))) (h8 : δ[8]? = some (some (eL (S.getD s []))))
    (hl : T[lc]? = some (.dT (colsOf q))) (nd : (q.map (·.1)).Nodup) (hq : (t, l) ∈ q) (hc : T[l]? = some (.lst ((col S M t).map eN))) :
    ixM (ixM (varM 1) (sliceM (varM 4) (someO (conM (.int 1))) noO)) (ixM (varM 8) (ixM (varM 4) (conM (.int 0)))) δ T = .ok (eN (beh S M s (f :: t))) T := by
  have hk := getK_cols nd hq
  have hrl := m.rl hs
  have d := m.dl hs hf
  have v1 : varM 1 δ T = .ok (.loc lc) T := by simp only [varM, h1]
  have v4 : varM 4 δ T = .ok (eL (f :: t)) T := by simp only [varM, h4]
  have v8 : varM 8 δ T = .ok (eL (S.getD s [])) T := by simp only [varM, h8]
  have a1 : sliceM (varM 4) (someO (conM (.int 1))) noO δ T = .ok (eL t) T := by
    unfold sliceM
    rw [v4]
    simp [someO, noO, conM, cutD, HT.sIx]
    exact List.take_of_length_le (by simp)
  have a2 : ixM (varM 1) (sliceM (varM 4) (someO (conM (.int 1))) noO) δ T = .ok (.loc l) T := by
    unfold ixM bin2
    rw [v1, Res.bind_ok, a1]
    simp [hl, keysOf_eN, hk]
  have a3 : ixM (varM 4) (conM (.int 0)) δ T = .ok (eN f) T := by
    unfold ixM bin2
    rw [v4]
    simp [conM, atI]
  have a4 : ixM (varM 8) (ixM (varM 4) (conM (.int 0))) δ T = .ok (eN (dl S s f)) T := by
    unfold ixM bin2 at a3 ⊢
    rw [v8, Res.bind_ok, a3]
    have : (S.getD s [])[f]? = some (dl S s f) := getD_of (by omega)
    simp [atI_nat, this, -List.getD_eq_getElem?_getD]
  have hbe : (col S M t)[dl S s f]? = some (beh S M s (f :: t)) := by rw [beh_cons]; generalize dl S s f = x at d; simp [col, d]
  unfold ixM bin2 at a2 a4 ⊢
  rw [a2, Res.bind_ok, a4]
  generalize dl S s f = x at hbe
  generalize col S M t = cc at hbe hc
  simp [hc, atI_nat, hbe]
end Fx
namespace Fx
open PySem PySem.Spec PyProof.Rows L2
theorem letters_lc {S : List (List Nat)} {M : List Nat} {b f : Nat} {t : List Nat} (g : Good b S M) (hf : f < b) {q : List (List Nat × Nat)} {lc l : Nat} {T : Store} {y2 y3 y5 y6 y7 y8 : Option D} (hl : T[lc]? = some (.dT (colsOf q))) (nd : (q.map (·.1)).Nodup) (hq : (t, l) ∈ q) (hc : T[l]? = some (.lst ((col S M t).map eN))) :
    lcM (seqI (ixM (varM 0) (conM (.int 1)))) (nameG 8) yesB (ixM (ixM (varM 1) (sliceM (varM 4) (someO (conM (.int 1))) noO)) (ixM (varM 8) (ixM (varM 4) (conM (.int 0))))) [8] [some (eR b S M), some (.loc lc), y2, y3, some (eL (f :: t)), y5, y6, y7, y8] T = .ok (.loc T.length) (T ++ [.lst ((col S M (f :: t)).map eN)]) := by
  have h60 := g.n60
  have hi : seqI (ixM (varM 0) (conM (.int 1))) [some (eR b S M), some (.loc lc), y2, y3, some (eL (f :: t)), y5, y6, y7, y8] T = .ok ⟨S.map eL, []⟩ T := by simp [seqI]
  have e := lcM_map (g := nameG 8) (c := yesB) (e := ixM (ixM (varM 1) (sliceM (varM 4) (someO (conM (.int 1))) noO)) (ixM (varM 8) (ixM (varM 4) (conM (.int 0))))) (vs := [8]) hi (fun x => eN (beh S M ((unL x).getD f 0) t)) gok_nil (by rw [sizeLine_eq, List.length_map]; omega) (fun x hx acc => by
    obtain ⟨r, hr, rfl⟩ := List.mem_map.mp hx
    obtain ⟨s, hs, rfl⟩ := List.mem_iff_getElem.mp hr
    have hgd : S.getD s [] = S[s] := getD_lt hs
    have := letter_eq g.mach hs hf (δ := [some (eR b S M), some (.loc lc), y2, y3, some (eL (f :: t)), y5, y6, y7, some (eL (S.getD s []))]) (T := T ++ [.lst acc]) rfl rfl rfl (at_old hl) nd hq (at_old hc)
    refine ⟨[some (eR b S M), some (.loc lc), y2, y3, some (eL (f :: t)), y5, y6, y7, some (eL (S.getD s []))], by rw [hgd]; rfl, rfl, ?_⟩
    rw [this, unL_eL, beh_cons]
    unfold dl
    rw [hgd])
  rw [e]
  congr 4
  rw [List.map_map, List.map_map]
  apply List.ext_getElem
  · simp
  · intro i h1 h2
    have hi : i < S.length := by simpa using h1
    simp only [List.getElem_map, Function.comp_apply, unL_eL, List.getElem_range, beh_cons]
    unfold dl
    rw [getD_lt hi]
end Fx
namespace Fx
open PySem PySem.Spec PyProof.Rows L2
noncomputable abbrev partsC : BM := asB (gtM (gcM (blM maxV (consM (gcM (callM 1 (F_numbered) (consM (lzipM (consM (varM 2) (consM (varM 7) nilM))) nilM))) nilM))) (blM maxV (consM (varM 2) nilM)))
noncomputable abbrev lettersE : EM := lcM (seqI (ixM (varM 0) (conM (.int 1)))) (nameG 8) yesB (ixM (ixM (varM 1) (sliceM (varM 4) (someO (conM (.int 1))) noO)) (ixM (varM 8) (ixM (varM 4) (conM (.int 0))))) [8]
noncomputable abbrev ntB : SM := seqS (setS 7 lettersE) (ifS partsC (retS (tupM (consM (varM 4) (consM (varM 7) nilM)))) skipS)
theorem tup2_eq {i j : Nat} {d e : D} {δ : En} {T : Store} (hi : δ[i]? = some (some d)) (hj : δ[j]? = some (some e)) : tupM (consM (varM i) (consM (varM j) nilM)) δ T = .ok (.tup [d, e]) T := by
  unfold tupM
  simp only [consM, nilM, varM, hi, hj, Res.bind_ok]
  rw [if_pos (show ([d, e] : List D).length ≤ sizeLine by show 2 ≤ sizeLine; rw [sizeLine_eq]; decide)]
theorem if_no {c : BM} {a : SM} {δ : En} {st : Store} (h : c δ st = .ok false st) : ifS c a skipS δ st = .ok .nx δ st := by unfold ifS; rw [h]; rfl
theorem forGo_rt {gs : List (Nat × MO)} {g : TGM} {b : SM} {x : D} {xs : List D} {d : D} {δ st δ1 st1 δ2 st2} (h : gok gs st) (e : g x δ st = .ok .nx δ1 st1) (e2 : b δ1 st1 = .ok (.rt d) δ2 st2) : forGo gs g b (x :: xs) δ st = .ok (.rt d) δ2 st2 := by
  conv => lhs; unfold forGo
  rw [if_pos h, e]
  simp only [e2]
theorem nt_loop {S : List (List Nat)} {M : List Nat} {b : Nat} (g : Good b S M) {q : List (List Nat × Nat)} {lc lk : Nat} {y3 y5 : Option D} (nd : (q.map (·.1)).Nodup) {gs : List (Nat × MO)} : ∀ (ws : List (List Nat)) (w0 : List Nat) (r : List (List Nat)) (y4 y6 y7 y8 : Option D) (T : Store), (∀ w ∈ ws, w ∈ more b (q.map (·.1))) → (ws.filter fun w => decide (kindsT S M (q.map (·.1)) < kindsT S M (q.map (·.1) ++ [w]))) = w0 :: r →
    gok gs T → T[lc]? = some (.dT (colsOf q)) → Cols S M q T → T[lk]? = some (.lst ((numF (rowsT S M (q.map (·.1)))).map eN)) →
    ∃ δ' l t, forGo gs (tupG 2 (consG (nameG 6) (consG (nameG 4) nilG))) ntB (ws.map pairD) [some (eR b S M), some (.loc lc), some (.loc lk), y3, y4, y5, y6, y7, y8] T = .ok (.rt (.tup [eL w0, .loc l])) δ' (T ++ t) ∧ T.length ≤ l ∧ (T ++ t)[l]? = some (.lst ((col S M w0).map eN))
  | [], w0, r, y4, y6, y7, y8, T, _, hf, _, _, _, _ => by cases hf
  | w :: ws, w0, r, y4, y6, y7, y8, T, hw, hf, hg, hl, hc, hk => by
    obtain ⟨u, hu, f, hfb, rfl⟩ := mem_more.mp (hw w (List.mem_cons_self ..))
    obtain ⟨⟨t, l⟩, hq, rfl⟩ := List.mem_map.mp hu
    have e1 := letters_lc g hfb (y2 := some (.loc lk)) (y3 := y3) (y5 := y5) (y6 := some (eN (f :: t).length)) (y7 := y7) (y8 := y8) hl nd hq (hc.at_ _ hq)
    have e2 := parts_eq (S := S) (M := M) (ts := q.map (·.1)) (w := f :: t) g.v.pos g.n60 (lk := lk) (ll := T.length) (δ := [some (eR b S M), some (.loc lc), some (.loc lk), y3, some (eL (f :: t)), y5, some (eN (f :: t).length), some (.loc T.length), y8]) (T := T ++ [.lst ((col S M (f :: t)).map eN)]) rfl rfl (at_old hk) (by simp)
    by_cases h : kindsT S M (q.map (·.1)) < kindsT S M (q.map (·.1) ++ [f :: t])
    · rw [List.filter_cons_of_pos (by simpa using h)] at hf
      injection hf with hf1 hf2
      subst hf1
      rw [decide_eq_true h] at e2
      refine ⟨[some (eR b S M), some (.loc lc), some (.loc lk), y3, some (eL (f :: t)), y5, some (eN (f :: t).length), some (.loc T.length), y8], T.length, [.lst ((col S M (f :: t)).map eN)], ?_, Nat.le_refl _, by simp⟩
      have body : ntB [some (eR b S M), some (.loc lc), some (.loc lk), y3, some (eL (f :: t)), y5, some (eN (f :: t).length), y7, y8] T = .ok (.rt (.tup [eL (f :: t), .loc T.length])) [some (eR b S M), some (.loc lc), some (.loc lk), y3, some (eL (f :: t)), y5, some (eN (f :: t).length), some (.loc T.length), y8] (T ++ [.lst ((col S M (f :: t)).map eN)]) := by
        exact (seq_nx (set_nx e1)).trans (if_rt e2 (tup2_eq rfl rfl))
      rw [List.map_cons]
      exact forGo_rt hg rfl body
    · rw [List.filter_cons_of_neg (by simpa using h)] at hf
      rw [decide_eq_false h] at e2
      have body : ntB [some (eR b S M), some (.loc lc), some (.loc lk), y3, some (eL (f :: t)), y5, some (eN (f :: t).length), y7, y8] T = .ok .nx [some (eR b S M), some (.loc lc), some (.loc lk), y3, some (eL (f :: t)), y5, some (eN (f :: t).length), some (.loc T.length), y8] (T ++ [.lst ((col S M (f :: t)).map eN)]) := by
        exact (seq_nx (set_nx e1)).trans (if_no e2)
      obtain ⟨δ', l', t', e3, h3, h4⟩ := nt_loop g nd (gs := gs) (y3 := y3) (y5 := y5) (lk := lk) ws w0 r (some (eL (f :: t))) (some (eN (f :: t).length)) (some (.loc T.length)) y8 (T ++ [.lst ((col S M (f :: t)).map eN)]) (fun v hv => hw v (List.mem_cons_of_mem _ hv)) hf (gok_app hg) (at_old hl) ⟨fun p hp => at_old (hc.at_ p hp)⟩ (at_old hk)
      refine ⟨δ', l', [.lst ((col S M (f :: t)).map eN)] ++ t', ?_, by simp at h3; omega, by rw [← List.append_assoc]; exact h4⟩
      rw [List.map_cons, ← List.append_assoc]
      exact (forGo_cons hg rfl body).trans e3
end Fx
namespace Fx
open PySem PySem.Spec PyProof.Rows L2
theorem gc_keep {st T : Store} {ds : List D} (h : D.lows st.length (.tup ds) = false) : gc st (.ok (.tup ds) T) = .ok (.tup ds) T := by
  simp only [gc, h]
  by_cases c : Clean st T
  · rw [if_pos c]; rfl
  · rw [if_neg c]
theorem F_next_tail_eq {S : List (List Nat)} {M : List Nat} {b : Nat} (L : LeastOk b S M) {q : List (List Nat × Nat)} {lc lk : Nat} {T : Store} (t : TOk b S M (q.map (·.1))) (hk : kindsT S M (q.map (·.1)) < S.length)
    (hl : T[lc]? = some (.dT (colsOf q))) (hc : Cols S M q T) (hkk : T[lk]? = some (.lst ((numF (rowsT S M (q.map (·.1)))).map eN))) :
    ∃ l r, F_next_tail [eR b S M, .loc lc, .loc lk] T = .ok (.tup [eL (nextT b S M (q.map (·.1))), .loc l]) (T ++ r) ∧ T.length ≤ l ∧ (T ++ r)[l]? = some (.lst ((col S M (nextT b S M (q.map (·.1)))).map eN)) := by
  have g := L.g
  have h60 := g.n60
  have hfew := t.few
  have hlen : (q.map (·.1)).length = q.length := List.length_map _
  have e1 := some_eq g (y2 := some (.loc lk)) (y3 := none) (y4 := none) (y5 := none) (y6 := none) (y7 := none) (y8 := none) hl (fun p hp => by have := t.short p.1 (List.mem_map.mpr ⟨p, hp, rfl⟩); omega) (by omega)
  obtain ⟨r0, hr0⟩ := goodT_some L t hk
  have hi : seqI (blM sortedV (consM (varM 3) nilM)) [some (eR b S M), some (.loc lc), some (.loc lk), some (.loc T.length), none, none, none, none, none] (T ++ [.lst ((more b (q.map (·.1))).map pairD)]) =
      .ok ⟨(srtP (more b (q.map (·.1)))).map pairD, [(T.length + 1, .lst ((srtP (more b (q.map (·.1)))).map pairD))]⟩ (T ++ [.lst ((more b (q.map (·.1))).map pairD), .lst ((srtP (more b (q.map (·.1)))).map pairD)]) := by
    have := sortedV_P (ws := more b (q.map (·.1))) (l := T.length) (st := T ++ [.lst ((more b (q.map (·.1))).map pairD)]) (by simp)
    unfold seqI
    simp only [blM, consM, nilM, varM, List.getElem?_cons_succ, List.getElem?_cons_zero, Res.bind_ok, this, List.length_append, List.length_singleton, List.append_assoc, List.cons_append, List.nil_append, at_len_add]
  obtain ⟨δ', l, t', e3, h3, h4⟩ := nt_loop g (q := q) (lc := lc) (lk := lk) (y3 := some (.loc T.length)) (y5 := none) (gs := [(T.length + 1, .lst ((srtP (more b (q.map (·.1)))).map pairD))]) t.nd (srtP (more b (q.map (·.1)))) (nextT b S M (q.map (·.1))) r0 none none none none (T ++ [.lst ((more b (q.map (·.1))).map pairD), .lst ((srtP (more b (q.map (·.1)))).map pairD)])
    (fun w hw => srtP_mem.mp hw) hr0 (gok_one.mpr (by simp)) (at_old hl) ⟨fun p hp => at_old (hc.at_ p hp)⟩ (at_old hkk)
  refine ⟨l, [.lst ((more b (q.map (·.1))).map pairD), .lst ((srtP (more b (q.map (·.1)))).map pairD)] ++ t', ?_, by rw [List.length_append] at h3; omega, by rw [← List.append_assoc]; exact h4⟩
  unfold F_next_tail gcF
  rw [run_rt (N := 9) (m := m_next_tail) (ds := [eR b S M, .loc lc, .loc lk]) ((seq_nx e1).trans (seq_rt (for_nx hi e3))), List.append_assoc]
  refine gc_keep ?_
  have : ¬ l < T.length := by rw [List.length_append] at h3; omega
  simp [this]
end Fx
namespace Fx
open PySem PySem.Spec PyProof.Rows L2
/-! ### raw_tails -/
theorem putD_cols {q : List (List Nat × Nat)} {w : List Nat} {l : Nat} (h : w ∉ q.map (·.1)) : putD (colsOf q) (w.map kI) (.loc l) = colsOf (q ++ [(w, l)]) := by
  have e : (colsOf q).any (fun kv => decide (kv.1 = w.map kI)) = false := by
    rw [List.any_eq_false]
    intro x hx
    obtain ⟨p, hp, rfl⟩ := List.mem_map.mp hx
    simp only [decide_eq_true_eq]
    intro e
    exact h (List.mem_map.mpr ⟨p, hp, kIL_inj e⟩)
  unfold putD
  rw [e]
  simp [colsOf]
theorem put_col {q : List (List Nat × Nat)} {lc l : Nat} {w : List Nat} {δ : En} {T : Store} (h1 : δ[1]? = some (some (.loc lc))) (h3 : δ[3]? = some (some (eL w))) (h4 : δ[4]? = some (some (.loc l))) (hl : T[lc]? = some (.dT (colsOf q))) (hn : w ∉ q.map (·.1)) (hq : q.length ≤ 1000) :
    putS (varM 4) (varM 1) (varM 3) δ T = .ok .nx δ (T.set lc (.dT (colsOf (q ++ [(w, l)])))) := by
  have hz : (colsOf q).length < sizeLine := by rw [sizeLine_eq]; simp [colsOf]; omega
  unfold putS subG
  simp only [varM, h1, h3, h4, bindE_ok, hl, dPut]
  rw [if_pos hz, keyTOf_eL, Option.map_some, putD_cols hn]
theorem rawC_eq {S : List (List Nat)} {M : List Nat} {b : Nat} {ts : List (List Nat)} (h0 : 0 < S.length) {lk : Nat} {δ : En} {T : Store} (hr : δ[0]? = some (some (eR b S M))) (h2 : δ[2]? = some (some (.loc lk))) (hk : T[lk]? = some (.lst ((numF (rowsT S M ts)).map eN))) :
    asB (ltM (addM (blM maxV (consM (varM 2) nilM)) (conM (.int 1))) (blM lenV (consM (ixM (varM 0) (conM (.int 1))) nilM))) δ T = .ok (decide (kindsT S M ts < S.length)) T := by
  have e3 : blM maxV (consM (varM 2) nilM) δ T = .ok (.int ((kindsT S M ts : Int) - 1)) T := by
    simp only [blM, consM, nilM, varM, h2, Res.bind_ok]
    exact max_num (by rw [rowsT_len]; exact h0) hk
  have e4 : blM lenV (consM (ixM (varM 0) (conM (.int 1))) nilM) δ T = .ok (eN S.length) T := by
    simp [varM, hr]
  have e5 : addM (blM maxV (consM (varM 2) nilM)) (conM (.int 1)) δ T = .ok (eN (kindsT S M ts)) T := by
    unfold addM bin2
    rw [e3]
    simp only [Res.bind_ok, conM, addV, Int.sub_add_cancel]
  simp only [asB, ltM, bin2, e4, e5, Res.bind_ok]
  simp
noncomputable abbrev rawB : SM := seqS (asgS (callM 3 (F_next_tail) (consM (varM 0) (consM (varM 1) (consM (varM 2) nilM)))) (tupG 2 (consG (nameG 3) (consG (nameG 4) nilG)))) (seqS (putS (varM 4) (varM 1) (varM 3)) (setS 2 (gcM (callM 1 (F_numbered) (consM (lzipM (consM (varM 2) (consM (varM 4) nilM))) nilM)))))
noncomputable abbrev rawC : BM := asB (ltM (addM (blM maxV (consM (varM 2) nilM)) (conM (.int 1))) (blM lenV (consM (ixM (varM 0) (conM (.int 1))) nilM)))
theorem call3_eq {F : FM} {i j k : Nat} {a b c : D} {δ : En} {T : Store} {r : Res D} (hi : δ[i]? = some (some a)) (hj : δ[j]? = some (some b)) (hk : δ[k]? = some (some c)) (h : F [a, b, c] T = r) : callM 3 F (consM (varM i) (consM (varM j) (consM (varM k) nilM))) δ T = r := by
  simp only [callM, consM, nilM, varM, hi, hj, hk, Res.bind_ok, List.length_cons, List.length_nil, Nat.zero_add, Nat.reduceAdd, if_true]
  exact h
theorem raw_body {S : List (List Nat)} {M : List Nat} {b : Nat} (L : LeastOk b S M) {q : List (List Nat × Nat)} {lc lk : Nat} {T : Store} {y3 y4 : Option D} (t : TOk b S M (q.map (·.1))) (hk : kindsT S M (q.map (·.1)) < S.length)
    (hl : T[lc]? = some (.dT (colsOf q))) (hc : Cols S M q T) (hkk : T[lk]? = some (.lst ((numF (rowsT S M (q.map (·.1)))).map eN))) :
    ∃ q' lk' z3 z4 T', rawB [some (eR b S M), some (.loc lc), some (.loc lk), y3, y4] T = .ok .nx [some (eR b S M), some (.loc lc), some (.loc lk'), z3, z4] T' ∧ Gr lc T T' ∧ q'.map (·.1) = q.map (·.1) ++ [nextT b S M (q.map (·.1))] ∧
      T'[lc]? = some (.dT (colsOf q')) ∧ Cols S M q' T' ∧ T'[lk']? = some (.lst ((numF (rowsT S M (q'.map (·.1)))).map eN)) := by
  have g := L.g
  have h60 := g.n60
  have hfew := t.few
  have hlen : (q.map (·.1)).length = q.length := List.length_map _
  obtain ⟨_, _, _, hnew⟩ := t.next L hk
  obtain ⟨l, r, e1, hlr, hcol⟩ := F_next_tail_eq L t hk hl hc hkk
  have hlc := lt_old hl
  have hnl : lc ≠ l := by omega
  have hll := lt_old hcol
  have e2 := put_col (q := q) (lc := lc) (l := l) (w := nextT b S M (q.map (·.1))) (δ := [some (eR b S M), some (.loc lc), some (.loc lk), some (eL (nextT b S M (q.map (·.1)))), some (.loc l)]) (T := T ++ r) rfl rfl rfl (at_old hl) hnew (by omega)
  have hlk : lk ≠ lc := fun e => by rw [e, hl] at hkk; cases hkk
  have hk1 : ((T ++ r).set lc (.dT (colsOf (q ++ [(nextT b S M (q.map (·.1)), l)]))))[lk]? = some (.lst ((numF (rowsT S M (q.map (·.1)))).map eN)) := by
    rw [List.getElem?_set_ne (Ne.symm hlk)]; exact at_old hkk
  have hc1 : ((T ++ r).set lc (.dT (colsOf (q ++ [(nextT b S M (q.map (·.1)), l)]))))[l]? = some (.lst ((col S M (nextT b S M (q.map (·.1)))).map eN)) := by
    rw [List.getElem?_set_ne hnl]; exact hcol
  have e3 := num_zip g.v.pos h60 (i := 2) (j := 4) (lk := lk) (ll := l) (δ := [some (eR b S M), some (.loc lc), some (.loc lk), some (eL (nextT b S M (q.map (·.1)))), some (.loc l)]) rfl rfl hk1 hc1
  have hq' : (q ++ [(nextT b S M (q.map (·.1)), l)]).map (·.1) = q.map (·.1) ++ [nextT b S M (q.map (·.1))] := by rw [List.map_append]; rfl
  refine ⟨q ++ [(nextT b S M (q.map (·.1)), l)], _, _, _, _, (seq_nx (asg2_nx (call3_eq rfl rfl rfl e1))).trans ((seq_nx e2).trans (set_nx e3)), ?_, hq', ?_, ⟨fun p hp => ?_⟩, ?_⟩
  · exact ((Gr.app (Nat.le_of_lt hlc)).trans (Gr.set (by simp; omega) (Nat.le_refl _))).trans (Gr.app (by simp; omega))
  · refine at_old ?_
    rw [List.getElem?_set_self (by simp; omega)]
  · refine at_old ?_
    rcases List.mem_append.mp hp with hp | hp
    · have h1 := hc.at_ p hp
      have hne : lc ≠ p.2 := fun e => by rw [← e, hl] at h1; cases h1
      rw [List.getElem?_set_ne hne]
      exact at_old h1
    · rw [List.mem_singleton.mp hp]
      exact hc1
  · rw [at_len, hq']; rfl
theorem raw_while {S : List (List Nat)} {M : List Nat} {b : Nat} (L : LeastOk b S M) {q : List (List Nat × Nat)} {lc lk : Nat} {T0 : Store} {y3 y4 : Option D} (hq : q.map (·.1) = [[]]) 
    (hl : T0[lc]? = some (.dT (colsOf q))) (hc : Cols S M q T0) (hkk : T0[lk]? = some (.lst ((numF (rowsT S M [[]])).map eN))) :
    ∃ q' lk' z3 z4 T', whileS rawC rawB [some (eR b S M), some (.loc lc), some (.loc lk), y3, y4] T0 = .ok .nx [some (eR b S M), some (.loc lc), some (.loc lk'), z3, z4] T' ∧ Gr lc T0 T' ∧ q'.map (·.1) = tailsF b S M (S.length + 1) [[]] ∧ T'[lc]? = some (.dT (colsOf q')) := by
  have h60 := L.g.n60
  refine whileS_rule (c := rawC) (b := rawB) (Q := fun r => ∃ q' lk' z3 z4 T', r = .ok .nx [some (eR b S M), some (.loc lc), some (.loc lk'), z3, z4] T' ∧ Gr lc T0 T' ∧ q'.map (·.1) = tailsF b S M (S.length + 1) [[]] ∧ T'[lc]? = some (.dT (colsOf q')))
    (fun n δ T => ∃ q lk z3 z4, δ = [some (eR b S M), some (.loc lc), some (.loc lk), z3, z4] ∧ TOk b S M (q.map (·.1)) ∧ n = S.length - kindsT S M (q.map (·.1)) ∧ Gr lc T0 T ∧ T[lc]? = some (.dT (colsOf q)) ∧ Cols S M q T ∧ T[lk]? = some (.lst ((numF (rowsT S M (q.map (·.1)))).map eN)) ∧ tailsF b S M (S.length + 1) (q.map (·.1)) = tailsF b S M (S.length + 1) [[]]) ?_ (S.length - kindsT S M [[]]) _ _
    ⟨q, lk, y3, y4, rfl, by rw [hq]; exact TOk.start L.g.v.pos, by rw [hq], Gr.refl (Nat.le_of_lt (lt_old hl)), hl, hc, by rw [hq]; exact hkk, by rw [hq]⟩
  rintro n δ T ⟨q, lk, z3, z4, rfl, t, rfl, gr, hl, hc, hkk, et⟩
  have hle := kindsT_le (S := S) (M := M) (ts := q.map (·.1))
  have hcond : rawC [some (eR b S M), some (.loc lc), some (.loc lk), z3, z4] T = .ok (decide (kindsT S M (q.map (·.1)) < S.length)) T := rawC_eq (b := b) (ts := q.map (·.1)) L.g.v.pos (δ := [some (eR b S M), some (.loc lc), some (.loc lk), z3, z4]) rfl rfl hkk
  by_cases hk : kindsT S M (q.map (·.1)) < S.length
  · refine .inr ⟨T, by rw [hcond, decide_eq_true hk], ?_⟩
    obtain ⟨q', lk', w3, w4, T', e, g2, hq', h2, h3, h4⟩ := raw_body L t hk (y3 := z3) (y4 := z4) hl hc hkk
    obtain ⟨t2, _, hgt, _⟩ := t.next L hk
    rw [e]
    refine ⟨S.length - kindsT S M (q'.map (·.1)), by rw [hq']; omega, q', lk', w3, w4, rfl, by rw [hq']; exact t2, rfl, gr.trans g2, h2, h3, h4, ?_⟩
    rw [← et, hq']
    have := tailsF_fuel L (S.length + 1) (S.length + 2) (q.map (·.1)) t (by omega) (by omega)
    rw [this]
    conv => rhs; unfold tailsF
    rw [if_pos hk]
  · refine .inl ⟨T, by rw [hcond, decide_eq_false hk], q, lk, z3, z4, T, rfl, gr, ?_, hl⟩
    rw [← et]
    conv => rhs; unfold tailsF
    rw [if_neg hk]
end Fx
namespace Fx
open PySem PySem.Spec PyProof.Rows L2
theorem if_rt2 {c : BM} {m : EM} {b : SM} {δ : En} {st st1 : Store} {d : D} (h : c δ st = .ok true st) (hm : m δ st = .ok d st1) : ifS c (retS m) b δ st = .ok (.rt d) δ st1 := by
  unfold ifS retS
  rw [h]
  simp only [bindE_ok, if_true]
  rw [hm]; rfl
def tailsR (b : Nat) (S : List (List Nat)) (M : List Nat) : List (List Nat) := if S.length = 1 then [] else tailsF b S M (S.length + 1) [[]]
theorem tailsW_R {b : Nat} {S : List (List Nat)} {M : List Nat} : tailsW b S M = srtW (tailsR b S M) := by
  unfold tailsW tailsR
  split
  · unfold srtW; rw [List.mergeSort_nil]
  · rfl
theorem num_start {S : List (List Nat)} {M : List Nat} (h : M.length = S.length) : numF M = numF (rowsT S M [[]]) := by
  refine dedF_ker_num (n := S.length) h rowsT_len fun i j hi hj => ?_
  rw [rowsT_ker hi hj]
  have e : ∀ k, k < S.length → M[k]? = some (M.getD k 0) := fun k hk => getD_of (by omega)
  rw [e i hi, e j hj, Option.some.injEq]
  constructor
  · intro q w hw
    rw [List.mem_singleton.mp hw]; exact q
  · intro q
    exact q [] (List.mem_singleton.mpr rfl)
theorem col_start {S : List (List Nat)} {M : List Nat} (h : M.length = S.length) : col S M [] = M := by
  apply List.ext_getElem
  · simp [h]
  · intro i h1 h2
    simp only [List.getElem_map, List.getElem_range]
    show M.getD i 0 = _
    rw [getD_lt h2]
theorem keysD_eq {q : List (List Nat × Nat)} {l i : Nat} {δ : En} {T : Store} (h1 : δ[i]? = some (some (.loc l))) (hl : T[l]? = some (.dT (colsOf q))) (hw : ∀ p ∈ q, p.1.length ≤ 1000) (hq : q.length ≤ 1000) :
    blM (orC listV listDV) (consM (varM i) nilM) δ T = .ok (.loc T.length) (T ++ [.lst ((q.map (·.1)).map eL)]) := by
  have hz : (colsOf q).length ≤ sizeLine := by rw [sizeLine_eq]; simp [colsOf]; omega
  have ha : ((colsOf q).all fun p => decide (p.1.length ≤ sizeLine)) = true := by
    rw [List.all_eq_true]
    intro x hx
    obtain ⟨p, hp, rfl⟩ := List.mem_map.mp hx
    have := hw p hp
    simp only [List.length_map, sizeLine_eq]
    exact decide_eq_true (by omega)
  simp only [blM, consM, nilM, varM, h1, Res.bind_ok, orC, listV, seqOf, hl, listDV]
  rw [if_pos ⟨ha, hz⟩]
  congr 3
  unfold colsOf
  rw [List.map_map, List.map_map]
  congr 1
  exact List.map_congr_left fun (p : List Nat × Nat) _ => kTD_nat p.1
theorem raw_start {b : Nat} {S : List (List Nat)} {M : List Nat} (g : Good b S M) {st : Store} {d0 d1 d2 d3 : Option D} :
    parS 1 2 (consM (dsp1T (tupM nilM) (blM (orC listV listDV) (consM (ixM (varM 0) (conM (.int 2))) nilM))) (consM (callM 1 (F_numbered) (consM (ixM (varM 0) (conM (.int 2))) nilM)) nilM)) [some (eR b S M), d0, d1, d2, d3] st =
    .ok .nx [some (eR b S M), some (.loc st.length), some (.loc (st.length + 2)), d2, d3] (st ++ [.dT (colsOf [([], st.length + 1)]), .lst (M.map eN), .lst ((numF M).map eN)]) := by
  have h60 := g.n60
  have hml := g.ml
  have i2 : ∀ T : Store, ixM (varM 0) (conM (.int 2)) [some (eR b S M), d0, d1, d2, d3] T = .ok (eL M) T := fun T => by simp [ixM, bin2, varM, conM, atI]
  have a1 : tupM nilM [some (eR b S M), d0, d1, d2, d3] (st ++ [.dT []]) = .ok (.tup []) (st ++ [.dT []]) := by
    unfold tupM
    simp only [nilM, Res.bind_ok]
    rw [if_pos (show ([] : List D).length ≤ sizeLine from Nat.zero_le _)]
  have a2 : blM (orC listV listDV) (consM (ixM (varM 0) (conM (.int 2))) nilM) [some (eR b S M), d0, d1, d2, d3] (st ++ [.dT []]) = .ok (.loc (st.length + 1)) (st ++ [.dT [], .lst (M.map eN)]) := by
    simp only [blM, consM, nilM, i2, Res.bind_ok, orC, listV, seqOf]
    simp
  have a3 : dsp1T (tupM nilM) (blM (orC listV listDV) (consM (ixM (varM 0) (conM (.int 2))) nilM)) [some (eR b S M), d0, d1, d2, d3] st = .ok (.loc st.length) (st ++ [.dT (colsOf [([], st.length + 1)]), .lst (M.map eN)]) := by
    unfold dsp1T
    rw [a1, Res.bind_ok, a2, Res.bind_ok]
    simp only [at_len, List.getElem?_cons_zero, keyTOf, keysOf]
    simp [colsOf]
  have a4 : callM 1 (F_numbered) (consM (ixM (varM 0) (conM (.int 2))) nilM) [some (eR b S M), d0, d1, d2, d3] (st ++ [.dT (colsOf [([], st.length + 1)]), .lst (M.map eN)]) = .ok (.loc (st.length + 2)) (st ++ [.dT (colsOf [([], st.length + 1)]), .lst (M.map eN), .lst ((numF M).map eN)]) := by
    have := F_numbered_K (d := eL M) (ns := M) (st := st ++ [.dT (colsOf [([], st.length + 1)]), .lst (M.map eN)]) (by simp only [seqOf]) (by omega)
    simp only [callM, consM, nilM, i2, Res.bind_ok, List.length_cons, List.length_nil, Nat.zero_add, Nat.reduceAdd, if_true]
    rw [this]
    simp
  unfold parS
  simp only [consM, nilM, a3, a4, Res.bind_ok, bindE_ok]
  rfl
theorem F_raw_tails_eq {b : Nat} {S : List (List Nat)} {M : List Nat} (L : LeastOk b S M) {st : Store} : F_raw_tails [eR b S M] st = .ok (.loc st.length) (st ++ [.lst ((tailsR b S M).map eL)]) := by
  have g := L.g
  have h60 := g.n60
  have lows : ∀ ts : List (List Nat), MO.lows st.length (.lst (ts.map eL)) = true := fun ts => by
    show D.lowsL st.length _ = true
    refine lowsL_all fun d hd => ?_
    obtain ⟨w, _, rfl⟩ := List.mem_map.mp hd
    exact eL_lows _
  have e1 : asB (eqM (blM lenV (consM (ixM (varM 0) (conM (.int 1))) nilM)) (conM (.int 1))) [some (eR b S M), none, none, none, none] st = .ok (decide (S.length = 1)) st := by
    simp
    omega
  unfold F_raw_tails gcF
  by_cases h : S.length = 1
  · rw [decide_eq_true h] at e1
    have ew : tailsR b S M = [] := by unfold tailsR; rw [if_pos h]
    have er : ifS (asB (eqM (blM lenV (consM (ixM (varM 0) (conM (.int 1))) nilM)) (conM (.int 1)))) (retS (lstM nilM)) skipS [some (eR b S M), none, none, none, none] st = .ok (.rt (.loc st.length)) [some (eR b S M), none, none, none, none] (st ++ [.lst []]) := by
      refine if_rt2 e1 ?_
      unfold lstM
      simp only [nilM, Res.bind_ok]
      rw [if_pos (show ([] : List D).length ≤ sizeLine from Nat.zero_le _)]
    rw [run_rt (N := 5) (m := m_raw_tails) (ds := [eR b S M]) (seq_rt er), ew]
    exact gc_loc0 (lows [])
  · rw [decide_eq_false h] at e1
    have ew : tailsR b S M = tailsF b S M (S.length + 1) [[]] := by unfold tailsR; rw [if_neg h]
    have e2 : ifS (asB (eqM (blM lenV (consM (ixM (varM 0) (conM (.int 1))) nilM)) (conM (.int 1)))) (retS (lstM nilM)) skipS [some (eR b S M), none, none, none, none] st = .ok .nx [some (eR b S M), none, none, none, none] st := by
      unfold ifS
      rw [e1]
      rfl
    have e3 := raw_start g (st := st) (d0 := none) (d1 := none) (d2 := none) (d3 := none)
    obtain ⟨q', lk', z3, z4, T', e4, g4, hq', h4⟩ := raw_while L (q := [([], st.length + 1)]) (lc := st.length) (lk := st.length + 2) (T0 := st ++ [.dT (colsOf [([], st.length + 1)]), .lst (M.map eN), .lst ((numF M).map eN)]) (y3 := none) (y4 := none) rfl (by simp)
      ⟨fun p hp => by rw [List.mem_singleton.mp hp]; rw [col_start g.ml]; simp⟩ (by rw [← num_start g.ml]; simp)
    obtain ⟨tok, hful⟩ := tailsF_ok L (S.length + 1) [[]] (TOk.start g.v.pos) (by omega)
    have hfew := tok.few
    have hlen : (q'.map (·.1)).length = q'.length := List.length_map _
    have hle := kindsT_le (S := S) (M := M) (ts := tailsF b S M (S.length + 1) [[]])
    have e5 := keysD_eq (q := q') (i := 1) (l := st.length) (δ := [some (eR b S M), some (.loc st.length), some (.loc lk'), z3, z4]) (T := T') rfl h4 (fun p hp => by have := tok.short p.1 (by rw [← hq']; exact List.mem_map.mpr ⟨p, hp, rfl⟩); omega) (by rw [← hlen, hq']; omega)
    rw [run_rt (N := 5) (m := m_raw_tails) (ds := [eR b S M]) ((seq_nx e2).trans <| (seq_nx e3).trans <| (seq_nx e4).trans (ret_nx e5)), ew, hq']
    have gr : Gr st.length st T' := (Gr.app (Nat.le_refl _)).trans g4
    obtain ⟨t, rfl⟩ := gr.ex
    rw [List.append_assoc, List.length_append]
    exact gc_loc (by simp) (lows _)
theorem F_tails_for_eq {b : Nat} {S : List (List Nat)} {M : List Nat} (g : Good b S M) {st : Store} : F_tails_for [eR b S M] st = .ok (.tup ((tailsW b (leastF S M).1 (leastF S M).2).map eL)) st := by
  have L := leastF_ok g
  have lows : ∀ ts : List (List Nat), D.lowsL st.length (ts.map eL) = true := fun ts => by
    refine lowsL_all fun d hd => ?_
    obtain ⟨w, _, rfl⟩ := List.mem_map.mp hd
    exact eL_lows _
  have v0 : ∀ T, varM 0 [some (eR b S M)] T = .ok (eR b S M) T := fun T => rfl
  have e1 : exprS (callM 1 (F_check_row) (consM (varM 0) nilM)) [some (eR b S M)] st = .ok .nx [some (eR b S M)] st := expr_nx (d := .non) (by
    simp only [callM, consM, nilM, v0, Res.bind_ok, List.length_cons, List.length_nil, Nat.zero_add, Nat.reduceAdd, if_true]
    exact F_check_good (F_is_row_good g))
  have a1 : callM 1 (F_raw_least_row) (consM (varM 0) nilM) [some (eR b S M)] st = .ok (leastR b S M) st := by
    simp only [callM, consM, nilM, v0, Res.bind_ok, List.length_cons, List.length_nil, Nat.zero_add, Nat.reduceAdd, if_true]
    exact F_raw_least_eq g
  have a2 : gcM (callM 1 (F_raw_tails) (consM (callM 1 (F_raw_least_row) (consM (varM 0) nilM)) nilM)) [some (eR b S M)] st = .ok (.loc st.length) (st ++ [.lst ((tailsR b (leastF S M).1 (leastF S M).2).map eL)]) := by
    refine gcM_eq (r := .ok (.loc st.length) (st ++ [.lst ((tailsR b (leastF S M).1 (leastF S M).2).map eL)])) ?_ (gc_loc0 (show MO.lows st.length (.lst _) = true from lows _))
    have h := F_raw_tails_eq L (st := st)
    simp only [callM, consM, nilM, v0, Res.bind_ok, List.length_cons, List.length_nil, Nat.zero_add, Nat.reduceAdd, if_true] at a1 ⊢
    rw [a1]
    exact h
  have a3 : gcM (blM sortedV (consM (gcM (callM 1 (F_raw_tails) (consM (callM 1 (F_raw_least_row) (consM (varM 0) nilM)) nilM))) nilM)) [some (eR b S M)] st = .ok (.loc st.length) (st ++ [.lst ((tailsW b (leastF S M).1 (leastF S M).2).map eL)]) := by
    generalize gcM (callM 1 (F_raw_tails) (consM (callM 1 (F_raw_least_row) (consM (varM 0) nilM)) nilM)) = mm at a2
    rw [tailsW_R]
    have h := sortedV_W (ws := tailsR b (leastF S M).1 (leastF S M).2) (l := st.length) (st := st ++ [.lst ((tailsR b (leastF S M).1 (leastF S M).2).map eL)]) (by simp)
    refine gcM_eq (r := .ok (.loc (st.length + 1)) (st ++ [.lst ((tailsR b (leastF S M).1 (leastF S M).2).map eL), .lst ((srtW (tailsR b (leastF S M).1 (leastF S M).2)).map eL)])) ?_ (gc_loc (by simp) (show MO.lows st.length (.lst _) = true from lows _))
    simp only [blM, consM, nilM, a2, Res.bind_ok]
    rw [h]
    simp
  have a4 : gcM (blM tupleV (consM (gcM (blM sortedV (consM (gcM (callM 1 (F_raw_tails) (consM (callM 1 (F_raw_least_row) (consM (varM 0) nilM)) nilM))) nilM))) nilM)) [some (eR b S M)] st = .ok (.tup ((tailsW b (leastF S M).1 (leastF S M).2).map eL)) st := by
    have hl : D.lows st.length (.tup ((tailsW b (leastF S M).1 (leastF S M).2).map eL)) = true := by rw [lows_tup]; exact lows _
    refine gcM_eq (r := .ok (.tup ((tailsW b (leastF S M).1 (leastF S M).2).map eL)) (st ++ [.lst ((tailsW b (leastF S M).1 (leastF S M).2).map eL)])) ?_ (gc_val hl)
    generalize gcM (blM sortedV (consM (gcM (callM 1 (F_raw_tails) (consM (callM 1 (F_raw_least_row) (consM (varM 0) nilM)) nilM))) nilM)) = mm at a3
    simp only [blM, consM, nilM, a3, Res.bind_ok, tupleV, seqOf, at_len, List.getElem?_cons_zero]
  unfold F_tails_for gcF
  rw [run_rt (N := 1) (m := m_tails_for) (ds := [eR b S M]) ((seq_nx e1).trans (ret_nx a4))]
  exact gc_id (by rw [lows_tup]; exact lows _)
end Fx
namespace Fx
open PySem PySem.Spec PyProof.Rows L2
/-! ### the hand -/
structure HandC (st : Store) (l c : Nat) : Prop where
  ex : ∃ (p v s k : Int) (cells : List Int), st[l]? = some (.lst [.loc c, .int p, .int v, .int s, .int k]) ∧ st[c]? = some (.lst (cells.map D.int)) ∧ l ≠ c ∧ (∀ x ∈ cells, (0 : Int) ≤ x) ∧ 0 ≤ p ∧ 0 ≤ v
/-- only the hand has changed -/
structure Dr (l n : Nat) (T T' : Store) : Prop where
  le : n ≤ T.length
  le' : n ≤ T'.length
  at_ : ∀ i, i < n → i ≠ l → T'[i]? = T[i]?
theorem Dr.refl {l n : Nat} {T : Store} (h : n ≤ T.length) : Dr l n T T := ⟨h, h, fun _ _ _ => rfl⟩
theorem Dr.trans {l n : Nat} {T T' T'' : Store} (a : Dr l n T T') (b : Dr l n T' T'') : Dr l n T T'' := ⟨a.le, b.le', fun i hi hl => (b.at_ i hi hl).trans (a.at_ i hi hl)⟩
theorem Dr.of {l n : Nat} {T T' : Store} (a : Gr n T T') : Dr l n T T' := ⟨a.le, a.le', fun i hi _ => a.at_ i hi⟩
theorem Dr.less {l n m : Nat} {T T' : Store} (a : Dr l n T T') (h : m ≤ n) : Dr l m T T' := ⟨Nat.le_trans h a.le, Nat.le_trans h a.le', fun i hi hl => a.at_ i (by omega) hl⟩
theorem Dr.get {l n i : Nat} {T T' : Store} (a : Dr l n T T') (h : i < n) (hl : i ≠ l) {mo : MO} (e : T[i]? = some mo) : T'[i]? = some mo := (a.at_ i h hl).trans e
theorem HandC.lt {T : Store} {l c : Nat} (h : HandC T l c) : l < T.length ∧ c < T.length ∧ l ≠ c := by
  obtain ⟨p, v, s, k, cells, h1, h2, h3, _⟩ := h.ex
  exact ⟨lt_old h1, lt_old h2, h3⟩
theorem HandC.gr {T T' : Store} {l c n : Nat} (h : HandC T l c) (g : Gr n T T') (hl : l < n) (hc : c < n) : HandC T' l c := by
  obtain ⟨p, v, s, k, cells, h1, h2, h3⟩ := h.ex
  exact ⟨p, v, s, k, cells, (g.at_ _ hl).trans h1, (g.at_ _ hc).trans h2, h3⟩
theorem HandC.app {T t : Store} {l c : Nat} (h : HandC T l c) : HandC (T ++ t) l c := h.gr (Gr.app (Nat.le_refl _)) h.lt.1 h.lt.2.1
theorem F_draw2 {st : Store} {l c : Nat} {span : Int} (h : HandC st l c) (hs : 0 < span) (hs2 : span < 1000) :
    ∃ (r p' v' s' k' : Int), F__law_draw [.loc l, .int span] st = .ok (.int r) (st.set l (.lst [.loc c, .int p', .int v', .int s', .int k'])) ∧ 0 ≤ r ∧ r < span ∧ HandC (st.set l (.lst [.loc c, .int p', .int v', .int s', .int k'])) l c := by
  obtain ⟨p, v, s, k, cells, h1, h2, h3, h4, hp, hv⟩ := h.ex
  have hl := lt_old h1
  have hlc : ∀ x, (st.set l x)[c]? = some (.lst (cells.map D.int)) := fun x => by rw [List.getElem?_set_ne h3]; exact h2
  have hll : ∀ x, (st.set l x)[l]? = some x := fun x => List.getElem?_set_self hl
  have hs3 : ¬ span = 0 := by omega
  have hs4 : span < 1073741824 := by omega
  have fin : ∀ (X p' v' s' k' : Int), F__law_draw [.loc l, .int span] st = gc st (.ok (.int (X % span)) (st.set l (.lst [.loc c, .int p', .int v', .int s', .int k']))) → 0 ≤ p' → 0 ≤ v' →
      ∃ (r p' v' s' k' : Int), F__law_draw [.loc l, .int span] st = .ok (.int r) (st.set l (.lst [.loc c, .int p', .int v', .int s', .int k'])) ∧ 0 ≤ r ∧ r < span ∧ HandC (st.set l (.lst [.loc c, .int p', .int v', .int s', .int k'])) l c := by
    intro X p' v' s' k' e2 h5 h6
    refine ⟨X % span, p', v', s', k', ?_, Int.emod_nonneg _ hs3, Int.emod_lt_of_pos _ hs, ⟨p', v', s', k', cells, hll _, hlc _, h3, h4, h5, h6⟩⟩
    rw [e2]
    exact gc_same (by simp) (by simp)
  have hm1 : ∀ x : Int, 0 ≤ x % 2147483647 := fun x => Int.emod_nonneg _ (by decide)
  have hm2 : ∀ x : Int, x % 2147483647 < 2147483647 := fun x => Int.emod_lt_of_pos _ (by decide)
  have big : ∀ x : Int, 0 ≤ x % 2147483647 → x % 2147483647 < 2147483647 → (-18446744073709551616 < x % 2147483647 ∧ x % 2147483647 < 18446744073709551616) := fun x h1 h2 => ⟨by omega, by omega⟩
  by_cases hv0 : v = 0
  · by_cases hpl : p < cells.length
    · have hpn : p.toNat < cells.length := by omega
      obtain ⟨q, rfl⟩ : ∃ q : Nat, p = (q : Int) := ⟨p.toNat, by omega⟩
      have hq : q < cells.length := by omega
      have hcell : cells[q]? = some cells[q] := by simp [hq]
      have hnn : 0 ≤ cells[q] := h4 _ (List.getElem_mem hq)
      by_cases hbig : (1000000000000000000 : Int) ≤ cells[q]
      · have hpos : 0 < cells[q] := by omega
        refine fin ?X (q + 1) ?v ?s k ?e (by omega) ?g
        case e =>
          simp only [F__law_draw, gcF, runF, m__law_draw]
          simp [h1, hv0, hpl, h2, hll, hlc, hs, hs4, hq, hcell, atI_nat, hbig, hpos]
          rfl
        case g => exact Int.ediv_nonneg hnn (by omega)
      · refine fin ?X2 (q + 1) 0 ?s2 (k + 1) ?e2 (by omega) (Int.le_refl _)
        case e2 =>
          simp only [F__law_draw, gcF, runF, m__law_draw]
          simp [h1, hv0, hpl, h2, hll, hlc, hs, hs4, hq, hcell, atI_nat, hbig, big, hm1, hm2]
          rfl
    · refine fin ?X3 p 0 s (k + 1) ?e3 hp (Int.le_refl _)
      case e3 =>
        simp only [F__law_draw, gcF, runF, m__law_draw]
        simp [h1, hv0, hpl, h2, hll, hlc, hs, big, hm1, hm2]
        rfl
  · have hpos : 0 < v := by omega
    refine fin v p (v / span) s k ?e4 hp (Int.ediv_nonneg hv (by omega))
    case e4 =>
      simp only [F__law_draw, gcF, runF, m__law_draw]
      simp [h1, hv0, h2, hll, hlc, hs, hs4, hpos]
theorem draw {T : Store} {l c n : Nat} (h : HandC T l c) (h0 : 0 < n) (h1 : n < 1000) : ∃ (r : Nat) (T' : Store), F__law_draw [.loc l, eN n] T = .ok (eN r) T' ∧ r < n ∧ HandC T' l c ∧ Dr l T.length T T' ∧ T'.length = T.length := by
  obtain ⟨r, p', v', s', k', e, hr1, hr2, h'⟩ := F_draw2 h (span := (n : Int)) (by omega) (by omega)
  refine ⟨r.toNat, _, ?_, by omega, h', ⟨Nat.le_refl _, by simp, fun i hi hl => by rw [List.getElem?_set_ne (Ne.symm hl)]⟩, by simp⟩
  rw [e]
  show _ = Res.ok (D.int (r.toNat : Int)) _
  rw [Int.toNat_of_nonneg hr1]
/-- what a call leaves behind, when only the hand changed -/
theorem gc_hand {T T' : Store} {l c : Nat} {d : D} (h : HandC T l c) (h' : HandC T' l c) (g : Dr l T.length T T') (hd : d.lows T.length = true) : ∃ T'', gc T (.ok d T') = .ok d T'' ∧ HandC T'' l c ∧ Dr l T.length T T'' ∧ T''.length = T.length := by
  obtain ⟨hl, hc, hn⟩ := h.lt
  obtain ⟨p, v, s, k, cells, h1, h2, h3⟩ := h'.ex
  have cl : Clean T T' := ⟨g.le', fun i mo hi hm => by
    by_cases e : i = l
    · subst e
      right
      rw [h1] at hm
      cases hm
      show D.lowsL T.length _ = true
      simp [hc]
    · left
      rw [← g.at_ i hi e]; exact hm⟩
  refine ⟨T'.take T.length, ?_, ⟨p, v, s, k, cells, by rw [List.getElem?_take_of_lt hl]; exact h1, by rw [List.getElem?_take_of_lt hc]; exact h2, h3⟩, ⟨Nat.le_refl _, by rw [List.length_take]; have := g.le'; omega, fun i hi he => by rw [List.getElem?_take_of_lt hi]; exact g.at_ i hi he⟩, by rw [List.length_take]; have := g.le'; omega⟩
  simp only [gc, if_pos cl, if_pos hd]
/-- a comprehension by an invariant -/
theorem lcM_inv {im : IM} {g : TGM} {e : EM} {vs : List Nat} {δ : En} {st st0 : Store} {it : ItD} (him : im δ st = .ok it st0) (hl : it.xs.length ≤ sizeLine) (I : List D → Store → Prop) (h0 : I [] (st0 ++ [.lst []]))
    (hg : ∀ acc T, I acc T → gok it.gs T)
    (hx : ∀ x ∈ it.xs, ∀ acc T, I acc T → ∃ δ1 d T', g x (wipeD δ vs) T = .ok .nx δ1 T ∧ e δ1 T = .ok d T' ∧ T'[st0.length]? = some (.lst acc) ∧ I (acc ++ [d]) (T'.set st0.length (.lst (acc ++ [d])))) :
    ∃ acc T, lcM im g yesB e vs δ st = .ok (.loc st0.length) T ∧ acc.length = it.xs.length ∧ I acc T := by
  have go : ∀ (xs : List D) (acc : List D) (T : Store), (∀ x ∈ xs, x ∈ it.xs) → acc.length + xs.length = it.xs.length → I acc T → ∃ acc' T', lcGo it.gs g yesB e (wipeD δ vs) st0.length xs T = .ok (.loc st0.length) T' ∧ acc'.length = it.xs.length ∧ I acc' T' := by
    intro xs
    induction xs with
    | nil =>
      intro acc T _ hn hi
      refine ⟨acc, T, ?_, by simpa using hn, hi⟩
      unfold lcGo
      rw [if_pos (hg _ _ hi)]
    | cons x xs ih =>
      intro acc T hm hn hi
      obtain ⟨δ1, d, T', e1, e2, e3, hi2⟩ := hx x (hm x (List.mem_cons_self ..)) acc T hi
      rw [List.length_cons] at hn
      obtain ⟨acc', T'', e4, h4, h5⟩ := ih (acc ++ [d]) _ (fun y hy => hm y (List.mem_cons_of_mem _ hy)) (by simp; omega) hi2
      refine ⟨acc', T'', ?_, h4, h5⟩
      unfold lcGo
      rw [if_pos (hg _ _ hi), e1]
      simp only [yesB]
      rw [e2]
      simp only [e3]
      rw [if_pos (show acc.length < sizeLine by omega)]
      exact e4
  unfold lcM
  rw [him]
  simp only [Res.bind_ok]
  exact go it.xs [] _ (fun _ h => h) (by simp) h0
end Fx
namespace Fx
open PySem PySem.Spec PyProof.Rows L2
/-! ### drawn things -/
theorem call2_eq {F : FM} {i j : Nat} {a b : D} {δ : En} {T : Store} {r : Res D} (hi : δ[i]? = some (some a)) (hj : δ[j]? = some (some b)) (h : F [a, b] T = r) : callM 2 F (consM (varM i) (consM (varM j) nilM)) δ T = r := by
  simp only [callM, consM, nilM, varM, hi, hj, Res.bind_ok, List.length_cons, List.length_nil, Nat.zero_add, Nat.reduceAdd, if_true]
  exact h
theorem call2c_eq {F : FM} {i : Nat} {a b : D} {δ : En} {T : Store} {r : Res D} (hi : δ[i]? = some (some a)) (h : F [a, b] T = r) : callM 2 F (consM (varM i) (consM (conM b) nilM)) δ T = r := by
  simp only [callM, consM, nilM, varM, conM, hi, Res.bind_ok, List.length_cons, List.length_nil, Nat.zero_add, Nat.reduceAdd, if_true]
  exact h
theorem some_abs {F : FM} {l m r : Nat} {x : D} {xs : List D} {T T' : Store} (hm : T[m]? = some (.lst xs)) (hd : F [.loc l, eN xs.length] T = .ok (eN r) T') (hlen : T'.length = T.length) (hm' : T'[m]? = some (.lst xs)) (hr : xs[r]? = some x) (hx : x.lows T.length = true) :
    gcF (runF 2 (retS (ixM (varM 1) (gcM (callM 2 F (consM (varM 0) (consM (blM lenV (consM (varM 1) nilM)) nilM))))))) [.loc l, .loc m] T = .ok x T' := by
  have e1 : gcM (callM 2 F (consM (varM 0) (consM (blM lenV (consM (varM 1) nilM)) nilM))) [some (.loc l), some (.loc m)] T = .ok (eN r) T' := by
    refine gcM_eq (r := .ok (eN r) T') ?_ (gc_same hlen lows_int)
    have e0 : blM lenV (consM (varM 1) nilM) [some (.loc l), some (.loc m)] T = .ok (eN xs.length) T := by
      simp [blM, consM, nilM, varM, lenV, hm]
    simp only [callM, consM, nilM] at e0 ⊢
    simp only [varM, List.getElem?_cons_zero, Res.bind_ok, e0, List.length_cons, List.length_nil, Nat.zero_add, Nat.reduceAdd, if_true]
    exact hd
  have e2 : ixM (varM 1) (gcM (callM 2 F (consM (varM 0) (consM (blM lenV (consM (varM 1) nilM)) nilM)))) [some (.loc l), some (.loc m)] T = .ok x T' := by
    generalize gcM (callM 2 F (consM (varM 0) (consM (blM lenV (consM (varM 1) nilM)) nilM))) = mm at e1
    unfold ixM bin2
    simp only [varM, List.getElem?_cons_succ, List.getElem?_cons_zero, Res.bind_ok, e1]
    simp [ixV, hm', atI_nat, hr]
  unfold gcF
  rw [run_rt (N := 2) (ds := [.loc l, .loc m]) (ret_nx e2)]
  exact gc_same hlen hx
theorem some_law {T : Store} {l c m : Nat} {xs : List D} (h : HandC T l c) (hm : T[m]? = some (.lst xs)) (hml : m ≠ l) (h0 : 0 < xs.length) (h1 : xs.length < 1000) (hx : ∀ x ∈ xs, x.lows T.length = true) :
    ∃ x ∈ xs, ∃ T', F__law_some [.loc l, .loc m] T = .ok x T' ∧ HandC T' l c ∧ Dr l T.length T T' ∧ T'.length = T.length := by
  obtain ⟨r, T', e, hr, h', g, hl⟩ := draw h h0 h1
  exact ⟨xs[r], List.getElem_mem hr, T', some_abs hm e hl (g.get (lt_old hm) hml hm) (by simp [hr]) (hx _ (List.getElem_mem hr)), h', g, hl⟩
/-- a list of drawn letters -/
theorem letters_draw {l c b n : Nat} {T : Store} {y3 y4 y5 y6 y7 y8 : Option D} (h : HandC T l c) (hn : n ≤ 1000) :
    ∃ (M : List Nat) (T' : Store), lcM (range1I (consM (varM 2) nilM)) (nameG 4) yesB (callM 2 (F__law_draw) (consM (varM 0) (consM (conM (.int 3)) nilM))) [4] [some (.loc l), some (eN b), some (eN n), y3, y4, y5, y6, y7, y8] T = .ok (.loc T.length) T' ∧ M.length = n ∧ (∀ m ∈ M, m < 3) ∧
      HandC T' l c ∧ Dr l T.length T T' ∧ T'.length = T.length + 1 ∧ T'[T.length]? = some (.lst (M.map eN)) := by
  have hr : range1I (consM (varM 2) nilM) [some (.loc l), some (eN b), some (eN n), y3, y4, y5, y6, y7, y8] T = .ok ⟨(List.range n).map eN, []⟩ T := range1_eq (by simp) hn
  have hlt := h.lt
  obtain ⟨acc, T', e, hlen, M, rfl, h3, h4, h5, h6, h7⟩ := lcM_inv (g := nameG 4) (e := callM 2 (F__law_draw) (consM (varM 0) (consM (conM (.int 3)) nilM))) (vs := [4]) hr (by rw [sizeLine_eq]; simp; omega)
    (fun acc T1 => ∃ M : List Nat, acc = M.map eN ∧ (∀ m ∈ M, m < 3) ∧ HandC T1 l c ∧ Dr l T.length T T1 ∧ T1.length = T.length + 1 ∧ T1[T.length]? = some (.lst acc))
    ⟨[], rfl, by simp, h.app, Dr.of (Gr.app (Nat.le_refl _)), by simp, by simp⟩ (fun _ _ _ => gok_nil) (by
      rintro x hx acc T1 ⟨M, rfl, h3, h4, h5, h6, h7⟩
      obtain ⟨r, T2, e2, hr3, h42, g2, hl2⟩ := draw (n := 3) h4 (by omega) (by omega)
      have a1 : T2[T.length]? = some (.lst (M.map eN)) := g2.get (by omega) (by omega) h7
      refine ⟨_, eN r, T2, rfl, call2c_eq rfl e2, a1, M ++ [r], by simp, fun m hm => ?_, ?_, ?_, by simp; omega, ?_⟩
      · rcases List.mem_append.mp hm with q | q
        · exact h3 m q
        · rw [List.mem_singleton.mp q]; exact hr3
      · exact h42.gr (n := T.length) (Gr.set (by omega) (Nat.le_refl _)) hlt.1 hlt.2.1
      · exact (h5.trans (g2.less (by omega))).trans (Dr.of (Gr.set (by omega) (Nat.le_refl _)))
      · rw [List.getElem?_set_self (by omega)])
  exact ⟨M, T', e, by simpa using hlen, h3, h4, h5, h6, h7⟩
/-- the goals of a state -/
theorem goals_draw {l c b n : Nat} {T : Store} {y3 y4 y5 y6 y7 y8 : Option D} (h : HandC T l c) (hb1 : 1 ≤ b) (hb : b ≤ 1000) (hn0 : 0 < n) (hn : n < 1000) :
    ∃ (G : List Nat) (T' : Store), lcM (range1I (consM (subM (varM 1) (conM (.int 1))) nilM)) (nameG 8) yesB (callM 2 (F__law_draw) (consM (varM 0) (consM (varM 2) nilM))) [8] [some (.loc l), some (eN b), some (eN n), y3, y4, y5, y6, y7, y8] T = .ok (.loc T.length) T' ∧ G.length = b - 1 ∧ (∀ m ∈ G, m < n) ∧
      HandC T' l c ∧ Dr l T.length T T' ∧ T'.length = T.length + 1 ∧ T'[T.length]? = some (.lst (G.map eN)) := by
  have hr : range1I (consM (subM (varM 1) (conM (.int 1))) nilM) [some (.loc l), some (eN b), some (eN n), y3, y4, y5, y6, y7, y8] T = .ok ⟨(List.range (b - 1)).map eN, []⟩ T := range1_eq (by
    have : ((b : Int) - 1) = ((b - 1 : Nat) : Int) := by omega
    simp [this]) (by omega)
  have hlt := h.lt
  obtain ⟨acc, T', e, hlen, M, rfl, h3, h4, h5, h6, h7⟩ := lcM_inv (g := nameG 8) (e := callM 2 (F__law_draw) (consM (varM 0) (consM (varM 2) nilM))) (vs := [8]) hr (by rw [sizeLine_eq]; simp; omega)
    (fun acc T1 => ∃ M : List Nat, acc = M.map eN ∧ (∀ m ∈ M, m < n) ∧ HandC T1 l c ∧ Dr l T.length T T1 ∧ T1.length = T.length + 1 ∧ T1[T.length]? = some (.lst acc))
    ⟨[], rfl, by simp, h.app, Dr.of (Gr.app (Nat.le_refl _)), by simp, by simp⟩ (fun _ _ _ => gok_nil) (by
      rintro x hx acc T1 ⟨M, rfl, h3, h4, h5, h6, h7⟩
      obtain ⟨r, T2, e2, hr3, h42, g2, hl2⟩ := draw (n := n) h4 (by omega) (by omega)
      have a1 : T2[T.length]? = some (.lst (M.map eN)) := g2.get (by omega) (by omega) h7
      refine ⟨_, eN r, T2, rfl, call2_eq rfl rfl e2, a1, M ++ [r], by simp, fun m hm => ?_, ?_, ?_, by simp; omega, ?_⟩
      · rcases List.mem_append.mp hm with q | q
        · exact h3 m q
        · rw [List.mem_singleton.mp q]; exact hr3
      · exact h42.gr (n := T.length) (Gr.set (by omega) (Nat.le_refl _)) hlt.1 hlt.2.1
      · exact (h5.trans (g2.less (by omega))).trans (Dr.of (Gr.set (by omega) (Nat.le_refl _)))
      · rw [List.getElem?_set_self (by omega)])
  exact ⟨M, T', e, by simpa using hlen, h3, h4, h5, h6, h7⟩
/-- the states of a letter -/
theorem menu_lc {l b n a lL : Nat} {M : List Nat} {T : Store} {y4 y5 y7 y8 : Option D} (hM : M.length = n) (hn : n ≤ 1000) (hl : T[lL]? = some (.lst (M.map eN))) :
    lcM (range1I (consM (varM 2) nilM)) (nameG 4) (asB (eqM (ixM (varM 3) (varM 4)) (varM 6))) (varM 4) [4] [some (.loc l), some (eN b), some (eN n), some (.loc lL), y4, y5, some (eN a), y7, y8] T = .ok (.loc T.length) (T ++ [.lst (((List.range n).filter fun s => decide (M.getD s 0 = a)).map eN)]) := by
  have hr : range1I (consM (varM 2) nilM) [some (.loc l), some (eN b), some (eN n), some (.loc lL), y4, y5, some (eN a), y7, y8] T = .ok ⟨(List.range n).map eN, []⟩ T := range1_eq (by simp) hn
  have e := lcM_filter (g := nameG 4) (c := asB (eqM (ixM (varM 3) (varM 4)) (varM 6))) (e := varM 4) (vs := [4]) hr (fun x => if decide (M.getD (unN x) 0 = a) = true then some x else none) gok_nil (by rw [sizeLine_eq]; simp; omega) (fun x hx acc => by
    obtain ⟨s, hs, rfl⟩ := List.mem_map.mp hx
    have hs := List.mem_range.mp hs
    have hms : M[s]? = some (M.getD s 0) := getD_of (by omega)
    have e0 : asB (eqM (ixM (varM 3) (varM 4)) (varM 6)) [some (.loc l), some (eN b), some (eN n), some (.loc lL), some (eN s), y5, some (eN a), y7, y8] (T ++ [.lst acc]) = .ok (decide (M.getD s 0 = a)) (T ++ [.lst acc]) := by
      have i1 : ixM (varM 3) (varM 4) [some (.loc l), some (eN b), some (eN n), some (.loc lL), some (eN s), y5, some (eN a), y7, y8] (T ++ [.lst acc]) = .ok (eN (M.getD s 0)) (T ++ [.lst acc]) := by
        simp only [ixM, bin2, varM, List.getElem?_cons_succ, List.getElem?_cons_zero, Res.bind_ok, ixV, at_old hl, atI_nat, List.getElem?_map, hms, Option.map_some]
      generalize M.getD s 0 = z at i1
      simp only [asB, eqM, bin2, i1, varM, List.getElem?_cons_succ, List.getElem?_cons_zero, Res.bind_ok, eqV, eqB_int]
      simp
      omega
    refine ⟨[some (.loc l), some (eN b), some (eN n), some (.loc lL), some (eN s), y5, some (eN a), y7, y8], rfl, ?_⟩
    have un : unN (eN s) = s := by simp [unN]
    rw [un]
    by_cases q : M.getD s 0 = a
    · rw [if_pos (decide_eq_true q)]
      rw [decide_eq_true q] at e0
      exact ⟨e0, rfl⟩
    · rw [if_neg (by simpa using q)]
      rw [decide_eq_false q] at e0
      exact e0)
  rw [e]
  have : ∀ ks : List Nat, (ks.map eN).filterMap (fun x => if decide (M.getD (unN x) 0 = a) = true then some x else none) = (ks.filter fun s => decide (M.getD s 0 = a)).map eN := by
    intro ks
    induction ks with
    | nil => rfl
    | cons k ks ih =>
      rw [List.map_cons, List.filterMap_cons]
      have un : unN (eN k) = k := by simp [unN]
      rw [un]
      by_cases q : M.getD k 0 = a
      · rw [if_pos (decide_eq_true q), List.filter_cons_of_pos (by simpa using q), List.map_cons, ← ih]
      · rw [if_neg (by simpa using q), List.filter_cons_of_neg (by simpa using q), ← ih]
  show Res.ok _ (T ++ [MO.lst (((List.range n).map eN).filterMap fun x => if decide (M.getD (unN x) 0 = a) = true then some x else none)]) = _
  rw [this]
end Fx
namespace Fx
open PySem PySem.Spec PyProof.Rows L2
noncomputable abbrev rowE : EM := gcM (blM tupleV (consM (addM (lstM (consM (callM 2 (F__law_some) (consM (varM 0) (consM (varM 7) nilM))) nilM)) (lcM (range1I (consM (subM (varM 1) (conM (.int 1))) nilM)) (nameG 8) yesB (callM 2 (F__law_draw) (consM (varM 0) (consM (varM 2) nilM))) [8])) nilM))
noncomputable abbrev rowB : SM := seqS (setS 7 (lcM (range1I (consM (varM 2) nilM)) (nameG 4) (asB (eqM (ixM (varM 3) (varM 4)) (varM 6))) (varM 4) [4])) (exprS (lmM appV (varM 5) (consM rowE nilM)))
theorem tuple_eq {X : EM} {δ : En} {T T1 : Store} {l : Nat} {xs : List D} (h : X δ T = .ok (.loc l) T1) (hl : T1[l]? = some (.lst xs)) : blM tupleV (consM X nilM) δ T = .ok (.tup xs) T1 := by
  simp only [blM, consM, nilM, h, Res.bind_ok, tupleV, seqOf, hl]
/-- one state's goals -/
theorem rowE_eq {l c b n m : Nat} {K : List Nat} {T : Store} {y3 y4 y5 y6 y8 : Option D} (h : HandC T l c) (hb1 : 1 ≤ b) (hb : b ≤ 1000) (hn0 : 0 < n) (hn : n < 1000) (hm : T[m]? = some (.lst (K.map eN))) (hml : m ≠ l) (h0 : 0 < K.length) (h1 : K.length < 1000) :
    ∃ (k : Nat) (G : List Nat) (T' : Store), rowE [some (.loc l), some (eN b), some (eN n), y3, y4, y5, y6, some (.loc m), y8] T = .ok (eL (k :: G)) T' ∧ k ∈ K ∧ G.length = b - 1 ∧ (∀ g ∈ G, g < n) ∧ HandC T' l c ∧ Dr l T.length T T' ∧ T'.length = T.length := by
  have hlt := h.lt
  obtain ⟨x, hx, T1, e1, h1', g1, l1⟩ := some_law h hm hml (by simpa using h0) (by simpa using h1) (fun x hx => by
    obtain ⟨k, _, rfl⟩ := List.mem_map.mp hx
    exact lows_int)
  obtain ⟨k, hk, rfl⟩ := List.mem_map.mp hx
  have c1 : callM 2 (F__law_some) (consM (varM 0) (consM (varM 7) nilM)) [some (.loc l), some (eN b), some (eN n), y3, y4, y5, y6, some (.loc m), y8] T = .ok (eN k) T1 := call2_eq rfl rfl e1
  generalize hm1 : callM 2 (F__law_some) (consM (varM 0) (consM (varM 7) nilM)) = m1 at c1
  have a1 : lstM (consM m1 nilM) [some (.loc l), some (eN b), some (eN n), y3, y4, y5, y6, some (.loc m), y8] T = .ok (.loc T.length) (T1 ++ [.lst [eN k]]) := by
    unfold lstM
    simp only [consM, nilM, c1, Res.bind_ok, l1]
    rw [if_pos (show ([eN k] : List D).length ≤ sizeLine by show 1 ≤ sizeLine; rw [sizeLine_eq]; decide)]
  have h2 : HandC (T1 ++ [.lst [eN k]]) l c := h1'.app
  obtain ⟨G, T2, e2, hG, hGn, h2', g2, l2, hl2⟩ := goals_draw (b := b) (n := n) (y3 := y3) (y4 := y4) (y5 := y5) (y6 := y6) (y7 := some (.loc m)) (y8 := y8) h2 hb1 hb hn0 hn
  simp only [List.length_append, List.length_singleton, l1] at e2 g2 l2 hl2
  have hk2 : T2[T.length]? = some (.lst [eN k]) := g2.get (by omega) (by omega) (by rw [← l1]; simp)
  have a3 : addM (lstM (consM m1 nilM)) (lcM (range1I (consM (subM (varM 1) (conM (.int 1))) nilM)) (nameG 8) yesB (callM 2 (F__law_draw) (consM (varM 0) (consM (varM 2) nilM))) [8]) [some (.loc l), some (eN b), some (eN n), y3, y4, y5, y6, some (.loc m), y8] T = .ok (.loc (T.length + 2)) (T2 ++ [.lst ((k :: G).map eN)]) := by
    unfold addM bin2
    rw [a1, Res.bind_ok, e2]
    simp only [Res.bind_ok, addV, hk2, hl2, l2]
    rw [if_pos (show [eN k].length + (G.map eN).length ≤ sizeLine by rw [sizeLine_eq]; simp; omega)]
    rfl
  have g3 : Dr l T.length T (T2 ++ [.lst ((k :: G).map eN)]) := (g1.trans (Dr.of (Gr.app (by omega)))).trans ((g2.less (by omega)).trans (Dr.of (Gr.app (by omega))))
  obtain ⟨T4, e4, h4, g4, l4⟩ := gc_hand (d := eL (k :: G)) h h2'.app g3 (eL_lows _)
  refine ⟨k, G, T4, ?_, hk, hG, hGn, h4, g4, l4⟩
  refine gcM_eq (r := .ok (eL (k :: G)) (T2 ++ [.lst ((k :: G).map eN)])) ?_ e4
  rw [← hm1] at a3
  exact tuple_eq a3 (by rw [show T.length + 2 = T2.length by omega]; simp)
theorem app_nx {i lS : Nat} {m : EM} {xs : List D} {x : D} {δ : En} {T T' : Store} (hi : δ[i]? = some (some (.loc lS))) (h : T[lS]? = some (.lst xs)) (hm : m δ T = .ok x T') (h' : T'[lS]? = some (.lst xs)) (hz : xs.length < sizeLine) :
    exprS (lmM appV (varM i) (consM m nilM)) δ T = .ok .nx δ (T'.set lS (.lst (xs ++ [x]))) := by
  refine expr_nx (d := .non) ?_
  unfold lmM
  simp only [varM, hi, Res.bind_ok, h, consM, nilM, hm, appV, h']
  rw [if_pos hz]
structure RowOk (b n : Nat) (M : List Nat) (S : List (List Nat)) : Prop where
  wide : ∀ r ∈ S, r.length = b
  lt : ∀ r ∈ S, ∀ g ∈ r, g < n
  pf : ∀ s, s < S.length → M.getD ((S.getD s []).getD 0 0) 0 = M.getD s 0
theorem rowB_eq {l c b n lL lS : Nat} {M : List Nat} {S : List (List Nat)} {T : Store} {y4 y7 y8 : Option D} (h : HandC T l c) (hb1 : 1 ≤ b) (hb : b ≤ 1000) (hM : M.length = n) (hn : n < 1000) (hS : S.length < n) (hL : T[lL]? = some (.lst (M.map eN))) (hSS : T[lS]? = some (.lst (S.map eL))) (hLl : lL ≠ l) (hSl : lS ≠ l) (hLS : lL ≠ lS) (hlS : l < lS) (hcS : c < lS) (hLS' : lL < lS) (ok : RowOk b n M S) :
    ∃ (r : List Nat) (z7 : Option D) (T' : Store), rowB [some (.loc l), some (eN b), some (eN n), some (.loc lL), y4, some (.loc lS), some (eN (M.getD S.length 0)), y7, y8] T = .ok .nx [some (.loc l), some (eN b), some (eN n), some (.loc lL), y4, some (.loc lS), some (eN (M.getD S.length 0)), z7, y8] T' ∧ RowOk b n M (S ++ [r]) ∧ HandC T' l c ∧ Dr l lS T T' ∧ T'[lS]? = some (.lst ((S ++ [r]).map eL)) := by
  have hlt := h.lt
  have hltS := lt_old hSS
  have e1 := menu_lc (l := l) (b := b) (a := M.getD S.length 0) (y4 := y4) (y5 := some (.loc lS)) (y7 := y7) (y8 := y8) hM (by omega) hL
  generalize hK : (List.range n).filter (fun s => decide (M.getD s 0 = M.getD S.length 0)) = K at e1
  have hKm : ∀ k, k ∈ K ↔ k < n ∧ M.getD k 0 = M.getD S.length 0 := fun k => by rw [← hK, List.mem_filter, List.mem_range, decide_eq_true_iff]
  have hK0 : 0 < K.length := List.length_pos_of_mem ((hKm S.length).mpr ⟨hS, rfl⟩)
  have hK1 : K.length ≤ n := by
    rw [← hK]
    exact Nat.le_trans (List.length_filter_le _ _) (by simp)
  obtain ⟨k, G, T2, e2, hk, hG, hGn, h2, g2, l2⟩ := rowE_eq (m := T.length) (K := K) (y3 := some (.loc lL)) (y4 := y4) (y5 := some (.loc lS)) (y6 := some (eN (M.getD S.length 0))) (y8 := y8) (h.app (t := [.lst (K.map eN)])) hb1 hb (by omega) hn (by simp) (by omega) hK0 (by omega)
  obtain ⟨hkn, hkM⟩ := (hKm k).mp hk
  rw [List.length_append, List.length_singleton] at g2 l2
  have hS2 : T2[lS]? = some (.lst (S.map eL)) := g2.get (by omega) hSl (at_old hSS)
  have e3 := app_nx (i := 5) (m := rowE) (δ := [some (.loc l), some (eN b), some (eN n), some (.loc lL), y4, some (.loc lS), some (eN (M.getD S.length 0)), some (.loc T.length), y8]) rfl (at_old hSS) e2 hS2 (by rw [sizeLine_eq, List.length_map]; omega)
  refine ⟨k :: G, some (.loc T.length), _, (seq_nx (set_nx e1)).trans e3, ⟨fun r hr => ?_, fun r hr g hg => ?_, fun s hs => ?_⟩, ?_, ?_, ?_⟩
  · rcases List.mem_append.mp hr with q | q
    · exact ok.wide r q
    · rw [List.mem_singleton.mp q, List.length_cons, hG]; omega
  · rcases List.mem_append.mp hr with q | q
    · exact ok.lt r q g hg
    · rw [List.mem_singleton.mp q] at hg
      rcases List.mem_cons.mp hg with rfl | hg
      · exact hkn
      · exact hGn g hg
  · rw [List.length_append, List.length_singleton] at hs
    by_cases q : s < S.length
    · have : (S ++ [k :: G]).getD s [] = S.getD s [] := by
        rw [List.getD_eq_getElem?_getD, List.getElem?_append_left q, ← List.getD_eq_getElem?_getD]
      rw [this]
      exact ok.pf s q
    · have q2 : s = S.length := by omega
      have : (S ++ [k :: G]).getD s [] = k :: G := by
        rw [List.getD_eq_getElem?_getD, q2]; simp
      rw [this, q2]
      exact hkM
  · exact h2.gr (n := lS) (Gr.set (by omega) (Nat.le_refl _)) hlS hcS
  · exact ((Dr.of (Gr.app (by omega))).trans (g2.less (by omega))).trans (Dr.of (Gr.set (by omega) (Nat.le_refl _)))
  · rw [List.getElem?_set_self (by omega), List.map_append]
    rfl
end Fx
namespace Fx
open PySem PySem.Spec PyProof.Rows L2
theorem row_loop {l c b n lL lS : Nat} {M : List Nat} {T0 : Store} (h : HandC T0 l c) (hb1 : 1 ≤ b) (hb : b ≤ 1000) (hM : M.length = n) (hn : n < 1000) (hL : T0[lL]? = some (.lst (M.map eN))) (hSS : T0[lS]? = some (.lst [])) (hLl : lL ≠ l) (hlS : l < lS) (hcS : c < lS) (hLS' : lL < lS) {y4 y6 y7 y8 : Option D} :
    ∃ (S : List (List Nat)) (z6 z7 : Option D) (T' : Store), forGo [(lL, .lst (M.map eN))] (nameG 6) rowB (M.map eN) [some (.loc l), some (eN b), some (eN n), some (.loc lL), y4, some (.loc lS), y6, y7, y8] T0 = .ok .nx [some (.loc l), some (eN b), some (eN n), some (.loc lL), y4, some (.loc lS), z6, z7, y8] T' ∧
      S.length = n ∧ RowOk b n M S ∧ HandC T' l c ∧ Dr l lS T0 T' ∧ T'[lS]? = some (.lst (S.map eL)) := by
  have hltS := lt_old hSS
  refine forGo_rule (gs := [(lL, .lst (M.map eN))]) (g := nameG 6) (b := rowB) (Q := fun r => ∃ (S : List (List Nat)) (z6 z7 : Option D) (T' : Store), r = .ok .nx [some (.loc l), some (eN b), some (eN n), some (.loc lL), y4, some (.loc lS), z6, z7, y8] T' ∧
      S.length = n ∧ RowOk b n M S ∧ HandC T' l c ∧ Dr l lS T0 T' ∧ T'[lS]? = some (.lst (S.map eL))) (M.map eN)
    (fun xs δ T => ∃ (S : List (List Nat)) (z6 z7 : Option D), xs = (M.drop S.length).map eN ∧ S.length ≤ n ∧ δ = [some (.loc l), some (eN b), some (eN n), some (.loc lL), y4, some (.loc lS), z6, z7, y8] ∧ RowOk b n M S ∧ HandC T l c ∧ Dr l lS T0 T ∧ T[lS]? = some (.lst (S.map eL))) ?_ ?_ _ _
    ⟨[], y6, y7, by simp, by simp, rfl, ⟨by simp, by simp, by simp⟩, h, Dr.refl (by omega), hSS⟩
  · rintro x xs δ T ⟨S, z6, z7, hx, hSl, rfl, ok, hh, hd, hs⟩
    have hL2 : T[lL]? = some (.lst (M.map eN)) := hd.get hLS' hLl hL
    have hS : S.length < n := by
      apply Classical.byContradiction
      intro q
      rw [List.drop_of_length_le (by omega)] at hx
      cases hx
    rw [List.drop_eq_getElem_cons (by omega), List.map_cons] at hx
    injection hx with hx1 hx2
    have hgd : M.getD S.length 0 = M[S.length]'(by omega) := getD_lt (by omega)
    obtain ⟨r, w7, T', e, ok', h', g', s'⟩ := rowB_eq (y4 := y4) (y7 := z7) (y8 := y8) hh hb1 hb hM hn hS hL2 hs hLl (by omega) (by omega) hlS hcS hLS' ok
    refine ⟨gok_one.mpr hL2, [some (.loc l), some (eN b), some (eN n), some (.loc lL), y4, some (.loc lS), some (eN (M.getD S.length 0)), z7, y8], T, ?_, ?_⟩
    · rw [hx1, ← hgd]; rfl
    · rw [e]
      refine ⟨S ++ [r], _, w7, ?_, by simp; omega, rfl, ok', h', hd.trans g', s'⟩
      rw [hx2]; simp
  · rintro δ T ⟨S, z6, z7, hx, hSl, rfl, ok, hh, hd, hs⟩
    have hL2 : T[lL]? = some (.lst (M.map eN)) := hd.get hLS' hLl hL
    refine ⟨gok_one.mpr hL2, S, z6, z7, T, rfl, ?_, ok, hh, hd, hs⟩
    have := congrArg List.length hx
    simp at this
    omega
theorem row_law {l c b n : Nat} {T : Store} (h : HandC T l c) (hb2 : 2 ≤ b) (hb : b ≤ 16) (hn0 : 0 < n) (hn : n ≤ 60) :
    ∃ (S : List (List Nat)) (M : List Nat) (T' : Store), F__law_row [.loc l, eN b, eN n] T = .ok (eR b S M) T' ∧ Good b S M ∧ HandC T' l c ∧ Dr l T.length T T' ∧ T'.length = T.length := by
  have hlt := h.lt
  obtain ⟨M, T1, e1, hM, hM3, h1, g1, l1, hl1⟩ := letters_draw (b := b) (n := n) (y3 := none) (y4 := none) (y5 := none) (y6 := none) (y7 := none) (y8 := none) h (by omega)
  have e2 : setS 5 (lstM nilM) [some (.loc l), some (eN b), some (eN n), some (.loc T.length), none, none, none, none, none] T1 = .ok .nx [some (.loc l), some (eN b), some (eN n), some (.loc T.length), none, some (.loc T1.length), none, none, none] (T1 ++ [.lst []]) := set_nx (by
    unfold lstM
    simp only [nilM, Res.bind_ok]
    rw [if_pos (show ([] : List D).length ≤ sizeLine from Nat.zero_le _)])
  have hL2 : (T1 ++ [MO.lst []])[T.length]? = some (.lst (M.map eN)) := at_old hl1
  have hi : seqI (varM 3) [some (.loc l), some (eN b), some (eN n), some (.loc T.length), none, some (.loc T1.length), none, none, none] (T1 ++ [.lst []]) = .ok ⟨M.map eN, [(T.length, .lst (M.map eN))]⟩ (T1 ++ [.lst []]) := by
    unfold seqI
    simp only [varM, List.getElem?_cons_succ, List.getElem?_cons_zero, Res.bind_ok, hL2]
  obtain ⟨S, z6, z7, T3, e3, hS, ok, h3, g3, s3⟩ := row_loop (b := b) (n := n) (lS := T1.length) (y4 := none) (y6 := none) (y7 := none) (y8 := none) (h1.app (t := [.lst []])) (by omega) (by omega) hM (by omega) hL2 (by simp) (by omega) (by omega) (by omega) (by omega)
  have hL3 : T3[T.length]? = some (.lst (M.map eN)) := g3.get (by omega) (by omega) hL2
  have e4 : tupM (consM (varM 1) (consM (blM tupleV (consM (varM 5) nilM)) (consM (blM tupleV (consM (varM 3) nilM)) nilM))) [some (.loc l), some (eN b), some (eN n), some (.loc T.length), none, some (.loc T1.length), z6, z7, none] T3 = .ok (eR b S M) T3 := by
    have t1 : blM tupleV (consM (varM 5) nilM) [some (.loc l), some (eN b), some (eN n), some (.loc T.length), none, some (.loc T1.length), z6, z7, none] T3 = .ok (eS S) T3 := tuple_eq (by rfl) s3
    have t2 : blM tupleV (consM (varM 3) nilM) [some (.loc l), some (eN b), some (eN n), some (.loc T.length), none, some (.loc T1.length), z6, z7, none] T3 = .ok (eL M) T3 := tuple_eq (by rfl) hL3
    generalize blM tupleV (consM (varM 5) nilM) = m1 at t1
    generalize blM tupleV (consM (varM 3) nilM) = m2 at t2
    unfold tupM
    simp only [consM, nilM, varM, List.getElem?_cons_succ, List.getElem?_cons_zero, Res.bind_ok, t1, t2]
    rw [if_pos (show ([eN b, eS S, eL M] : List D).length ≤ sizeLine by show 3 ≤ sizeLine; rw [sizeLine_eq]; decide)]
  have g : Dr l T.length T T3 := (g1.trans (Dr.of (Gr.app (by omega)))).trans (g3.less (by omega))
  obtain ⟨T4, e5, h4, g4, l4⟩ := gc_hand (d := eR b S M) h h3 g (eR_lows _ _ _)
  refine ⟨S, M, T4, ?_, ?_, h4, g4, l4⟩
  · unfold F__law_row gcF
    rw [run_rt (N := 9) (m := m__law_row) (ds := [.loc l, eN b, eN n]) ((seq_nx (set_nx e1)).trans <| (seq_nx e2).trans <| (seq_nx (for_nx hi e3)).trans (ret_nx e4))]
    exact e5
  · exact ⟨⟨by omega, fun r hr x hx => by have := ok.lt r hr x hx; omega, by omega, fun r hr => by have := ok.wide r hr; omega⟩, hb2, hb, by omega, ok.wide, by omega, fun m hm => by have := hM3 m hm; omega, fun s hs => ok.pf s hs⟩
end Fx
namespace Fx
open PySem PySem.Spec PyProof.Rows L2
/-! ### equal words -/
theorem canLay_ints : ∀ w : List Nat, PyData.canLayAll0 (w.map fun (n : Nat) => PyData.int (n : Int)) = true
  | [] => rfl
  | _ :: w => by simp [PyData.canLayAll0, PyData.canLay0, canLay_ints w]
theorem canLay_W (w : List Nat) : (pdW w).canLay0 = true := by unfold pdW; rw [PyData.canLay0]; exact canLay_ints w
theorem canLay_Ws : ∀ ws : List (List Nat), PyData.canLayAll0 (ws.map pdW) = true
  | [] => rfl
  | w :: ws => by rw [List.map_cons, PyData.canLayAll0, canLay_W, canLay_Ws ws]; rfl
theorem depth_Ws : ∀ ws : List (List Nat), PyData.depthAll (ws.map pdW) ≤ 1
  | [] => by simp [PyData.depthAll]
  | w :: ws => by
    have := depth_Ws ws
    rw [List.map_cons, PyData.depthAll, depth_W]
    omega
theorem shaped_Ws (ws : List (List Nat)) : SeqAt.shaped (.tuple (ws.map pdW)) = true := by
  have h := depth_Ws ws
  unfold SeqAt.shaped
  rw [PyData.canLay0, canLay_Ws, Bool.true_and, PyData.depth]
  exact decide_eq_true (by omega)
theorem eqB_Ws (st : Store) (ws : List (List Nat)) : eqB st (.tup (ws.map eL)) (.tup (ws.map eL)) = some true := by
  have e : pyD st 65 (.tup (ws.map eL)) = some (.tuple (ws.map pdW)) := by
    unfold pyD
    rw [optAll_map (f := pyD st 64) (e := eL) (h := pdW) fun w => pyD_eL st 62 w]
    rfl
  unfold eqB
  rw [e]
  simp only [shaped_Ws, and_self, if_true]
  rw [SeqAt.eqv_refl _ (by rw [PyData.canLay0]; exact canLay_Ws ws)]
theorem neV_Ws (st : Store) (ws : List (List Nat)) : neV (.tup (ws.map eL)) (.tup (ws.map eL)) st = .ok (.bl false) st := by
  unfold neV
  rw [eqB_Ws]
  rfl
/-! ### the hand -/
theorem hand_law {K : PySem.W.Frag} {d : D} {st : Store} {xs : List Int} (hx : xs.length ≤ 1000) (hs : sliceKM K (varM 0) noO (someO (conM (.int 63))) [some d, none, none] st = .ok (.loc st.length) (st ++ [.lst (xs.map D.int)])) :
    ∃ (l c : Nat) (T : Store), F__law_hand K [d] st = .ok (.loc l) T ∧ HandC T l c := by
  have hi : seqI (sliceKM K (varM 0) noO (someO (conM (.int 63)))) [some d, none, none] st = .ok ⟨xs.map D.int, [(st.length, .lst (xs.map D.int))]⟩ (st ++ [.lst (xs.map D.int)]) := by
    unfold seqI
    rw [hs]
    simp only [Res.bind_ok, at_len, List.getElem?_cons_zero]
  have e1 := lcM_map (g := nameG 2) (c := yesB) (e := gcM (blM absV (consM (blM intV (consM (varM 2) nilM)) nilM))) (vs := [2]) hi (fun x => match x with | .int i => .int (if i < 0 then -i else i) | x => x) (gok_one.mpr (by simp)) (by rw [sizeLine_eq]; simp; omega) (fun x hx acc => by
    obtain ⟨i, _, rfl⟩ := List.mem_map.mp hx
    refine ⟨_, rfl, rfl, ?_⟩
    refine gcM_eq (r := .ok (.int (if i < 0 then -i else i)) _) ?_ (gc_id lows_int)
    simp [wipeD])
  have em : (xs.map D.int).map (fun x => match x with | .int i => D.int (if i < 0 then -i else i) | x => x) = (xs.map fun i => if i < 0 then -i else i).map D.int := by rw [List.map_map, List.map_map]; rfl
  simp only [em, List.length_append, List.length_singleton, List.append_assoc, List.cons_append, List.nil_append] at e1
  generalize hc : xs.map (fun i => if i < 0 then -i else i) = cs at e1
  have hcs : ∀ x ∈ cs, (0 : Int) ≤ x := fun x hx => by
    rw [← hc] at hx
    obtain ⟨i, _, rfl⟩ := List.mem_map.mp hx
    split <;> omega
  have e2 : lstM (consM (varM 1) (consM (conM (.int 0)) (consM (conM (.int 0)) (consM (addM (conM (.int 617)) (mulTM (conM (.int 3)) (blM lenV (consM (varM 1) nilM)))) (consM (conM (.int 0)) nilM))))) [some d, some (.loc (st.length + 1)), none] (st ++ [.lst (xs.map D.int), .lst (cs.map D.int)]) =
      .ok (.loc (st.length + 2)) (st ++ [.lst (xs.map D.int), .lst (cs.map D.int), .lst [.loc (st.length + 1), .int 0, .int 0, .int (617 + 3 * (cs.length : Int)), .int 0]]) := by
    simp [sizeLine_eq]
  refine ⟨st.length + 2, st.length + 1, st ++ [.lst (xs.map D.int), .lst (cs.map D.int), .lst [.loc (st.length + 1), .int 0, .int 0, .int (617 + 3 * (cs.length : Int)), .int 0]], ?_, ⟨0, 0, 617 + 3 * (cs.length : Int), 0, cs, by simp, by simp, by omega, hcs, by omega, by omega⟩⟩
  unfold F__law_hand gcF
  rw [run_rt (N := 3) (m := m__law_hand K) (ds := [d]) ((seq_nx (set_nx e1)).trans (ret_nx e2))]
  have hl : D.lows st.length (.loc (st.length + 2)) = false := by simp
  have hm : MO.lows st.length (.lst [.loc (st.length + 1), .int 0, .int 0, .int (617 + 3 * (cs.length : Int)), .int 0]) = false := by
    show D.lowsL st.length _ = false
    simp
  simp only [gc, hl, at_len_add, List.getElem?_cons_succ, List.getElem?_cons_zero, hm]
  simp
/-! ### _law_is_refused -/
theorem tails_bad {d : D} {st : Store} (h : F_is_row [d] st = .ok (.bl false) st) : F_tails_for [d] st = .err "NoRow" [] st := by
  have e := F_check_bad h
  unfold F_tails_for gcF
  have : runF 1 m_tails_for [d] st = .err "NoRow" [] st := by
    unfold runF m_tails_for seqS exprS callM consM nilM
    simp only [varM, List.map_cons, List.map_nil, List.cons_append, List.nil_append, List.getElem?_cons_zero, Res.bind_ok, List.length_cons, List.length_nil, Nat.zero_add, if_true, e]
    rfl
  rw [this]
  exact gc_err0
theorem refused_eq {d : D} {st : Store} (h : F_is_row [d] st = .ok (.bl false) st) : F__law_is_refused [d] st = .ok (.bl true) st := by
  have e := tails_bad h
  have e1 : tryS (catch1 "NoRow") (exprS (callM 1 (F_tails_for) (consM (varM 0) nilM))) (retS (conM (.bl true))) [some d] st = .ok (.rt (.bl true)) [some d] st := by
    have e0 : exprS (callM 1 (F_tails_for) (consM (varM 0) nilM)) [some d] st = .err "NoRow" [] [some d] st := by
      unfold exprS callM consM nilM
      simp only [varM, List.getElem?_cons_zero, Res.bind_ok, List.length_cons, List.length_nil, Nat.zero_add, if_true, e]
      rfl
    unfold tryS
    rw [e0]
    have : catch1 "NoRow" "NoRow" = some true := by unfold catch1; simp
    simp only [this, retS, conM, bindE_ok]
    rfl
  unfold F__law_is_refused gcF
  rw [run_rt (N := 1) (m := m__law_is_refused) (ds := [d]) (seq_rt e1)]
  exact gc_id lows_bl
/-! ### _law_is -/
theorem zipL_self : ∀ ds : List D, zipL ds ds = ds.map fun d => .tup [d, d]
  | [] => rfl
  | d :: ds => by have := zipL_self ds; unfold zipL at this ⊢; simp [this]
end Fx
namespace Fx
open PySem PySem.Spec PyProof.Rows L2
noncomputable abbrev isAll (F : FM) : EM := gcM (blM allV (consM (lcM (zipI (consM (varM 0) (consM (varM 1) nilM))) (tupG 2 (consG (nameG 2) (consG (nameG 3) nilG))) yesB (callM 2 F (consM (varM 2) (consM (varM 3) nilM))) [2, 3]) nilM))
theorem eqV_true {i : Int} {st : Store} : eqV (.int i) (.int i) st = .ok (.bl true) st := by simp
theorem isAll_eq {F : FM} {ds : List D} {a b : D} {gs : List (Nat × MO)} {T : Store} (hi : zipI (consM (varM 0) (consM (varM 1) nilM)) [some a, some b, none, none] T = .ok ⟨ds.map fun d => .tup [d, d], gs⟩ T) (hg : gok gs T) (hl : ds.length ≤ 1000) (h : ∀ d ∈ ds, ∀ t, F [d, d] (T ++ t) = .ok (.bl true) (T ++ t)) :
    isAll F [some a, some b, none, none] T = .ok (.bl true) T := by
  have e := allLc (g := tupG 2 (consG (nameG 2) (consG (nameG 3) nilG))) (c := yesB) (e := callM 2 F (consM (varM 2) (consM (varM 3) nilM))) (vs := [2, 3]) hi (fun _ => true) hg (by rw [sizeLine_eq]; simp; omega) (fun x hx acc => by
    obtain ⟨d, hd, rfl⟩ := List.mem_map.mp hx
    exact ⟨[some a, some b, some d, some d], by simp [wipeD], rfl, call2_eq rfl rfl (h d hd _)⟩)
  rw [show ((⟨ds.map fun d => .tup [d, d], gs⟩ : ItD).xs.all fun _ => true) = true by simp] at e
  exact e
theorem is_seq {F : FM} {a b : D} {T : Store} {k : Int} (hty : isi2M "tuple" "list" (varM 1) [some a, some b, none, none] T = .ok (.bl true) T)
    (hne : orB (asB (neM (isiM "tuple" (varM 0)) (isiM "tuple" (varM 1)))) (asB (neM (isiM "list" (varM 0)) (isiM "list" (varM 1)))) [some a, some b, none, none] T = .ok false T)
    (hl0 : blM lenV (consM (varM 0) nilM) [some a, some b, none, none] T = .ok (.int k) T) (hl1 : blM lenV (consM (varM 1) nilM) [some a, some b, none, none] T = .ok (.int k) T)
    (hall : isAll F [some a, some b, none, none] T = .ok (.bl true) T) : gcF (runF 4 (m__law_is F)) [a, b] T = .ok (.bl true) T := by
  have e1 : asB (isi2M "tuple" "list" (varM 1)) [some a, some b, none, none] T = .ok true T := by
    unfold asB
    rw [hty]; rfl
  have e2 : eqM (blM lenV (consM (varM 0) nilM)) (blM lenV (consM (varM 1) nilM)) [some a, some b, none, none] T = .ok (.bl true) T := by
    unfold eqM bin2
    rw [hl0, Res.bind_ok, hl1, Res.bind_ok]
    exact eqV_true
  have e3 : andM (eqM (blM lenV (consM (varM 0) nilM)) (blM lenV (consM (varM 1) nilM))) (isAll F) [some a, some b, none, none] T = .ok (.bl true) T := by
    generalize isAll F = m1 at hall
    generalize eqM (blM lenV (consM (varM 0) nilM)) (blM lenV (consM (varM 1) nilM)) = m2 at e2
    simp [andM, e2, hall]
  have e4 : seqS (ifS (orB (asB (neM (isiM "tuple" (varM 0)) (isiM "tuple" (varM 1)))) (asB (neM (isiM "list" (varM 0)) (isiM "list" (varM 1))))) (retS (conM (.bl false))) skipS)
    (retS (andM (eqM (blM lenV (consM (varM 0) nilM)) (blM lenV (consM (varM 1) nilM))) (isAll F))) [some a, some b, none, none] T = .ok (.rt (.bl true)) [some a, some b, none, none] T := (seq_nx (if_no hne)).trans (ret_nx e3)
  have e5 : ifS (asB (isi2M "tuple" "list" (varM 1))) (seqS (ifS (orB (asB (neM (isiM "tuple" (varM 0)) (isiM "tuple" (varM 1)))) (asB (neM (isiM "list" (varM 0)) (isiM "list" (varM 1))))) (retS (conM (.bl false))) skipS)
    (retS (andM (eqM (blM lenV (consM (varM 0) nilM)) (blM lenV (consM (varM 1) nilM))) (isAll F)))) skipS [some a, some b, none, none] T = .ok (.rt (.bl true)) [some a, some b, none, none] T := by
    unfold ifS
    rw [e1]
    exact e4
  unfold gcF
  rw [run_rt (N := 4) (m := m__law_is F) (ds := [a, b]) (seq_rt e5)]
  exact gc_id lows_bl
theorem is_tup {n : Nat} {ds : List D} {T : Store} (hl : ds.length ≤ 1000) (h : ∀ d ∈ ds, ∀ t, F__law_is n [d, d] (T ++ t) = .ok (.bl true) (T ++ t)) : F__law_is (n + 1) [.tup ds, .tup ds] T = .ok (.bl true) T := by
  refine is_seq (F := F__law_is n) (k := ds.length) ?_ ?_ (by simp) (by simp) (isAll_eq (ds := ds) (gs := []) (by simp [zipI, zipL_self]) gok_nil hl h)
  · simp [isi2M]; rfl
  · simp [isiM, neM, neV, eqB]; rfl
end Fx
namespace Fx
open PySem PySem.Spec PyProof.Rows L2
theorem ne_bl {m1 m2 : EM} {b : Bool} {δ : En} {T : Store} (h1 : m1 δ T = .ok (.bl b) T) (h2 : m2 δ T = .ok (.bl b) T) : asB (neM m1 m2) δ T = .ok false T := by
  unfold asB neM bin2
  rw [h1, Res.bind_ok, h2]
  cases b <;> rfl
theorem or_no {c1 c2 : BM} {δ : En} {T : Store} (h1 : c1 δ T = .ok false T) (h2 : c2 δ T = .ok false T) : orB c1 c2 δ T = .ok false T := by
  unfold orB
  rw [h1]
  simp only [Res.bind_ok, if_neg (show ¬ (false = true) by decide)]
  exact h2
theorem is_lst {n : Nat} {ds : List D} {l l' : Nat} {T : Store} (h1 : T[l]? = some (.lst ds)) (h2 : T[l']? = some (.lst ds)) (hl : ds.length ≤ 1000) (h : ∀ d ∈ ds, ∀ t, F__law_is n [d, d] (T ++ t) = .ok (.bl true) (T ++ t)) : F__law_is (n + 1) [.loc l, .loc l'] T = .ok (.bl true) T := by
  refine is_seq (F := F__law_is n) (k := ds.length) ?_ ?_ (by simp [h1]) (by simp [h2]) (isAll_eq (ds := ds) (gs := [(l, .lst ds), (l', .lst ds)]) (by simp [zipI, zipL_self, h1, h2]) (fun g hg => by
    rcases List.mem_cons.mp hg with rfl | hg
    · exact h1
    · rw [List.mem_singleton.mp hg]; exact h2) hl h)
  · simp [isi2M, h1, h2]; rfl
  · refine or_no (ne_bl (b := false) ?_ ?_) (ne_bl (b := true) ?_ ?_)
    · simp [isiM, h1]
    · simp [isiM, h2]
    · simp [isiM, h1]
    · simp [isiM, h2]
theorem good_one : Good 2 [[0, 1], [1, 0]] [0, 1] := ⟨⟨by decide, by decide, by decide, by decide⟩, by decide, by decide, by decide, by decide, by decide, by decide, by decide⟩
theorem good_two : Good 3 [[0, 0, 0]] [4] := ⟨⟨by decide, by decide, by decide, by decide⟩, by decide, by decide, by decide, by decide, by decide, by decide, by decide⟩
theorem tails_one : tailsW 2 (leastF [[0, 1], [1, 0]] [0, 1]).1 (leastF [[0, 1], [1, 0]] [0, 1]).2 = [[]] := by
  have e : tailsR 2 (leastF [[0, 1], [1, 0]] [0, 1]).1 (leastF [[0, 1], [1, 0]] [0, 1]).2 = [[]] := by
    have e0 : leastF [[0, 1], [1, 0]] [0, 1] = ([[0, 1], [1, 0]], [0, 1]) := by decide +kernel
    rw [e0]
    unfold tailsR
    rw [if_neg (by decide)]
    unfold tailsF
    rw [if_neg (by decide +kernel)]
  rw [tailsW_R, e]
  unfold srtW
  rw [List.mergeSort_singleton]
theorem tails_two : tailsW 3 (leastF [[0, 0, 0]] [4]).1 (leastF [[0, 0, 0]] [4]).2 = [] := by
  have e : (leastF [[0, 0, 0]] [4]).1.length = 1 := by decide +kernel
  unfold tailsW
  rw [if_pos e]
noncomputable abbrev knownE1 : EM := gcM (callM 1 (F_tails_for) (consM (tupM (consM (conM (.int 2)) (consM (tupM (consM (tupM (consM (conM (.int 0)) (consM (conM (.int 1)) nilM))) (consM (tupM (consM (conM (.int 1)) (consM (conM (.int 0)) nilM))) nilM))) (consM (tupM (consM (conM (.int 0)) (consM (conM (.int 1)) nilM))) nilM)))) nilM))
noncomputable abbrev knownE2 : EM := gcM (callM 1 (F_tails_for) (consM (tupM (consM (conM (.int 3)) (consM (tupM (consM (tupM (consM (conM (.int 0)) (consM (conM (.int 0)) (consM (conM (.int 0)) nilM)))) nilM)) (consM (tupM (consM (conM (.int 4)) nilM)) nilM)))) nilM))
theorem call1_eq {F : FM} {m : EM} {a : D} {δ : En} {T T1 : Store} {r : Res D} (hi : m δ T = .ok a T1) (h : F [a] T1 = r) : callM 1 F (consM m nilM) δ T = r := by
  simp only [callM, consM, nilM, hi, Res.bind_ok, List.length_cons, List.length_nil, Nat.zero_add, Nat.reduceAdd, if_true]
  exact h
theorem known1 {δ : En} {T : Store} : knownE1 δ T = .ok (.tup [.tup []]) T := by
  have e := F_tails_for_eq good_one (st := T)
  rw [tails_one] at e
  refine gcM_eq (r := .ok (.tup [.tup []]) T) (call1_eq (a := eR 2 [[0, 1], [1, 0]] [0, 1]) (T1 := T) ?_ e) (gc_id (by simp))
  simp [sizeLine_eq]
theorem known2 {δ : En} {T : Store} : knownE2 δ T = .ok (.tup []) T := by
  have e := F_tails_for_eq good_two (st := T)
  rw [tails_two] at e
  refine gcM_eq (r := .ok (.tup []) T) (call1_eq (a := eR 3 [[0, 0, 0]] [4]) (T1 := T) ?_ e) (gc_id (by simp))
  simp [sizeLine_eq]
theorem lst2_eq {m1 m2 : EM} {a b : D} {δ : En} {T : Store} (h1 : m1 δ T = .ok a T) (h2 : m2 δ T = .ok b T) : lstM (consM m1 (consM m2 nilM)) δ T = .ok (.loc T.length) (T ++ [.lst [a, b]]) := by
  unfold lstM
  simp only [consM, nilM, h1, h2, Res.bind_ok]
  rw [if_pos (show ([a, b] : List D).length ≤ sizeLine by show 2 ≤ sizeLine; rw [sizeLine_eq]; decide)]
noncomputable abbrev dueE : EM := lstM (consM (tupM (consM (tupM nilM) nilM)) (consM (tupM nilM) nilM))
theorem dueE_eq {δ : En} {T : Store} : dueE δ T = .ok (.loc T.length) (T ++ [.lst [.tup [.tup []], .tup []]]) := lst2_eq (by simp [sizeLine_eq]) (by simp)
theorem is_known {l l' : Nat} {T : Store} (h1 : T[l]? = some (.lst [.tup [.tup []], .tup []])) (h2 : T[l']? = some (.lst [.tup [.tup []], .tup []])) : F__law_is 4 [.loc l, .loc l'] T = .ok (.bl true) T := by
  have e0 : ∀ n T, F__law_is (n + 1) [.tup [], .tup []] T = .ok (.bl true) T := fun n T => is_tup (by simp) (by simp)
  refine is_lst h1 h2 (by simp) fun d hd t => ?_
  rcases List.mem_cons.mp hd with rfl | hd
  · refine is_tup (by simp) fun d hd t' => ?_
    rw [List.mem_singleton.mp hd]
    exact e0 _ _
  · rw [List.mem_singleton.mp hd]
    exact e0 _ _
noncomputable abbrev knownC : BM := notB (asB (gcM (callM 2 ((F__law_is 4)) (consM (varM 2) (consM dueE nilM)))))
theorem knownC_eq {δ : En} {T : Store} {l : Nat} (h2 : δ[2]? = some (some (.loc l))) (hl : T[l]? = some (.lst [.tup [.tup []], .tup []])) : knownC δ T = .ok false T := by
  have a1 := dueE_eq (δ := δ) (T := T)
  have v2 : varM 2 δ T = .ok (.loc l) T := by simp only [varM, h2]
  have e := is_known (l := l) (l' := T.length) (T := T ++ [.lst [.tup [.tup []], .tup []]]) (at_old hl) (by simp)
  have e1 : gcM (callM 2 ((F__law_is 4)) (consM (varM 2) (consM dueE nilM))) δ T = .ok (.bl true) T := by
    refine gcM_eq (r := .ok (.bl true) (T ++ [.lst [.tup [.tup []], .tup []]])) ?_ (gc_val lows_bl)
    generalize dueE = m1 at a1
    simp only [callM, consM, nilM, v2, a1, Res.bind_ok, List.length_cons, List.length_nil, Nat.zero_add, Nat.reduceAdd, if_true]
    exact e
  unfold knownC notB asB
  rw [e1]
  rfl
end Fx
namespace Fx
open PySem PySem.Spec PyProof.Rows L2
/-! ### one turn -/
theorem tailsW_over {b : Nat} {S : List (List Nat)} {M : List Nat} (L : LeastOk b S M) : (∀ w ∈ tailsW b S M, Over b w) ∧ (tailsW b S M).length ≤ 60 := by
  have h60 := L.g.n60
  obtain ⟨t, hk⟩ := tailsF_ok L (S.length + 1) [[]] (TOk.start L.g.v.pos) (by omega)
  have hf := t.few
  unfold tailsW
  split
  · exact ⟨by simp, by simp⟩
  · refine ⟨fun w hw => t.over w (srtW_mem.mp hw), ?_⟩
    unfold srtW
    rw [List.length_mergeSort]
    omega
theorem addc_eq {k : Int} {m : EM} {n : Int} {δ : En} {T T1 : Store} (h : m δ T = .ok (.int n) T1) : addM (conM (.int k)) m δ T = .ok (.int (k + n)) T1 := by
  unfold addM bin2
  simp only [conM, Res.bind_ok, h, addV]
theorem cons3_eq {m1 m2 m3 : EM} {a b c : D} {δ : En} {T T1 T2 T3 : Store} (h1 : m1 δ T = .ok a T1) (h2 : m2 δ T1 = .ok b T2) (h3 : m3 δ T2 = .ok c T3) : consM m1 (consM m2 (consM m3 nilM)) δ T = .ok [a, b, c] T3 := by
  simp only [consM, nilM, h1, h2, h3, Res.bind_ok]
theorem callN_eq {n : Nat} {F : FM} {am : AM} {ds : List D} {δ : En} {T T1 : Store} {r : Res D} (h : am δ T = .ok ds T1) (hn : ds.length = n) (hf : F ds T1 = r) : callM n F am δ T = r := by
  unfold callM
  rw [h, Res.bind_ok, if_pos hn]
  exact hf
noncomputable abbrev turnRow : EM := gcM (callM 3 (F__law_row) (consM (varM 1) (consM (addM (conM (.int 2)) (callM 2 (F__law_draw) (consM (varM 1) (consM (conM (.int 3)) nilM)))) (consM (addM (conM (.int 1)) (callM 2 (F__law_draw) (consM (varM 1) (consM (conM (.int 7)) nilM)))) nilM))))
theorem turnRow_eq {δ : En} {T : Store} {l c : Nat} (h1 : δ[1]? = some (some (.loc l))) (h : HandC T l c) :
    ∃ (b : Nat) (S : List (List Nat)) (M : List Nat) (T' : Store), turnRow δ T = .ok (eR b S M) T' ∧ Good b S M ∧ HandC T' l c ∧ Dr l T.length T T' ∧ T'.length = T.length := by
  obtain ⟨r1, T1, e1, hr1, k1, g1, l1⟩ := draw (n := 3) h (by omega) (by omega)
  obtain ⟨r2, T2, e2, hr2, k2, g2, l2⟩ := draw (n := 7) k1 (by omega) (by omega)
  obtain ⟨S, M, T3, e3, hg, k3, g3, l3⟩ := row_law (b := 2 + r1) (n := 1 + r2) k2 (by omega) (by omega) (by omega) (by omega)
  have a1 : addM (conM (.int 2)) (callM 2 (F__law_draw) (consM (varM 1) (consM (conM (.int 3)) nilM))) δ T = .ok (eN (2 + r1)) T1 := by
    have e1' : F__law_draw [.loc l, .int 3] T = .ok (eN r1) T1 := e1
    rw [addc_eq (call2c_eq h1 e1')]
    simp
  have a2 : addM (conM (.int 1)) (callM 2 (F__law_draw) (consM (varM 1) (consM (conM (.int 7)) nilM))) δ T1 = .ok (eN (1 + r2)) T2 := by
    have e2' : F__law_draw [.loc l, .int 7] T1 = .ok (eN r2) T2 := e2
    rw [addc_eq (call2c_eq h1 e2')]
    simp
  have v1 : varM 1 δ T = .ok (.loc l) T := by simp only [varM, h1]
  have hl : T3.length = T.length := by omega
  refine ⟨2 + r1, S, M, T3, gcM_eq (callN_eq (cons3_eq v1 a1 a2) rfl e3) (gc_same hl (eR_lows _ _ _)), hg, k3, ?_, hl⟩
  exact (g1.trans (l1 ▸ g2)).trans ((l2.trans l1) ▸ g3)
noncomputable abbrev turnA : SM := ifS (orB (asB (neM (varM 6) (callM 1 (F__law_tails) (consM (varM 5) nilM)))) (asB (neM (callM 1 (F_tails_for) (consM (varM 5) nilM)) (varM 6)))) (retS (conM (.bl false))) skipS
theorem turnA_eq {δ : En} {T : Store} {b : Nat} {S : List (List Nat)} {M : List Nat} (L : LeastOk b S M) (h5 : δ[5]? = some (some (eR b S M))) (h6 : δ[6]? = some (some (.tup ((tailsW b S M).map eL)))) : turnA δ T = .ok .nx δ T := by
  have v5 : varM 5 δ T = .ok (eR b S M) T := by simp only [varM, h5]
  have v6 : varM 6 δ T = .ok (.tup ((tailsW b S M).map eL)) T := by simp only [varM, h6]
  have e1 := call1_eq v5 (F_law_tails L (st := T))
  have e2 := call1_eq v5 (F_tails_for_eq L.g (st := T))
  rw [leastF_id L] at e2
  refine if_no (or_no ?_ ?_)
  · unfold asB neM bin2
    rw [v6, Res.bind_ok, e1, Res.bind_ok, neV_Ws]
    rfl
  · unfold asB neM bin2
    rw [e2, Res.bind_ok, v6, Res.bind_ok]
    simp only
    rw [neV_Ws]
    rfl
noncomputable abbrev turnB : SM := ifS (andB (asB (gtM (blM lenV (consM (ixM (varM 5) (conM (.int 1))) nilM)) (conM (.int 1)))) (asB (neM (gcM (callM 2 (F__law_kinds) (consM (varM 5) (consM (blM (orC listV listDV) (consM (varM 6) nilM)) nilM)))) (blM lenV (consM (ixM (varM 5) (conM (.int 1))) nilM))))) (retS (conM (.bl false))) skipS
theorem neV_same {i : Int} {st : Store} : neV (.int i) (.int i) st = .ok (.bl false) st := by
  unfold neV
  rw [eqB_int]
  simp
theorem turnB_eq {δ : En} {T : Store} {b : Nat} {S : List (List Nat)} {M : List Nat} (L : LeastOk b S M) (h5 : δ[5]? = some (some (eR b S M))) (h6 : δ[6]? = some (some (.tup ((tailsW b S M).map eL)))) : turnB δ T = .ok .nx δ T := by
  have v5 : ∀ T, varM 5 δ T = .ok (eR b S M) T := fun T => by simp only [varM, h5]
  have v6 : varM 6 δ T = .ok (.tup ((tailsW b S M).map eL)) T := by simp only [varM, h6]
  obtain ⟨ho, hl⟩ := tailsW_over L
  have e1 : ∀ T, blM lenV (consM (ixM (varM 5) (conM (.int 1))) nilM) δ T = .ok (eN S.length) T := fun T => by simp [varM, h5]
  have e2 : blM (orC listV listDV) (consM (varM 6) nilM) δ T = .ok (.loc T.length) (T ++ [.lst ((tailsW b S M).map eL)]) := by
    simp only [blM, consM, nilM, v6, Res.bind_ok, orC, listV, seqOf]
  have e3 := F_kinds L.g ho (by omega) (d := .loc T.length) (st := T ++ [.lst ((tailsW b S M).map eL)]) (by simp only [seqOf, at_len, List.getElem?_cons_zero])
  have e4 : gcM (callM 2 (F__law_kinds) (consM (varM 5) (consM (blM (orC listV listDV) (consM (varM 6) nilM)) nilM))) δ T = .ok (eN (kindsT S M (tailsW b S M))) T := by
    refine gcM_eq (callN_eq (ds := [eR b S M, .loc T.length]) ?_ rfl e3) (gc_val lows_int)
    generalize blM (orC listV listDV) (consM (varM 6) nilM) = m1 at e2
    simp only [consM, nilM, v5, e2, Res.bind_ok]
  refine if_no ?_
  by_cases q : S.length = 1
  · have c1 : asB (gtM (blM lenV (consM (ixM (varM 5) (conM (.int 1))) nilM)) (conM (.int 1))) δ T = .ok false T := by
      unfold asB gtM bin2
      rw [e1, Res.bind_ok]
      simp [q]
    unfold andB
    rw [c1]
    rfl
  · have h0 := L.g.v.pos
    have c1 : asB (gtM (blM lenV (consM (ixM (varM 5) (conM (.int 1))) nilM)) (conM (.int 1))) δ T = .ok true T := by
      unfold asB gtM bin2
      rw [e1, Res.bind_ok]
      simp
      omega
    unfold andB
    rw [c1, Res.bind_ok, if_pos rfl]
    unfold asB neM bin2
    rw [e4, Res.bind_ok, e1, Res.bind_ok, tailsW_kinds L q, neV_same]
    rfl
noncomputable abbrev turnC : EM := lstM (consM (tupM (consM (ixM (varM 4) (conM (.int 0))) (consM (ixM (varM 4) (conM (.int 1))) nilM))) (consM (tupM (consM (ixM (varM 4) (conM (.int 0))) (consM (ixM (varM 4) (conM (.int 1))) (consM (addM (ixM (varM 4) (conM (.int 2))) (tupM (consM (conM (.int 1)) nilM))) nilM)))) (consM (addM (tupM (consM (conM (.int 1)) nilM)) (sliceM (varM 4) (someO (conM (.int 1))) noO)) (consM (blM (orC listV listDV) (consM (varM 4) nilM)) nilM))))
noncomputable abbrev turnD : EM := tupM (consM (ixM (varM 4) (conM (.int 0))) (consM (ixM (varM 4) (conM (.int 1))) (consM (mulTM (tupM (consM (conM (.int 10)) nilM)) (blM lenV (consM (ixM (varM 4) (conM (.int 2))) nilM))) nilM)))
theorem small_le {n : Nat} (h : n ≤ 1000) : n ≤ sizeLine := by rw [sizeLine_eq]; omega
theorem tup_of {am : AM} {ds : List D} {δ : En} {T T1 : Store} (h : am δ T = .ok ds T1) (hl : ds.length ≤ 1000) : tupM am δ T = .ok (.tup ds) T1 := by
  unfold tupM
  rw [h, Res.bind_ok, if_pos (small_le hl)]
theorem lst_of {am : AM} {ds : List D} {δ : En} {T T1 : Store} (h : am δ T = .ok ds T1) (hl : ds.length ≤ 1000) : lstM am δ T = .ok (.loc T1.length) (T1 ++ [.lst ds]) := by
  unfold lstM
  rw [h, Res.bind_ok, if_pos (small_le hl)]
theorem cons_eq {m : EM} {am : AM} {a : D} {ds : List D} {δ : En} {T T1 T2 : Store} (h1 : m δ T = .ok a T1) (h2 : am δ T1 = .ok ds T2) : consM m am δ T = .ok (a :: ds) T2 := by
  simp only [consM, h1, h2, Res.bind_ok]
theorem nil_eq {δ : En} {T : Store} : nilM δ T = .ok [] T := rfl
def wrongs (b : Nat) (S : List (List Nat)) (M : List Nat) (k : Nat) : List D := [.tup [eN b, eS S], .tup [eN b, eS S, eL (M ++ [1])], .tup [.int 1, eS S, eL M], .loc k]
theorem ix4 {δ : En} {T : Store} {b : Nat} {S : List (List Nat)} {M : List Nat} (h4 : δ[4]? = some (some (eR b S M))) : ixM (varM 4) (conM (.int 0)) δ T = .ok (eN b) T ∧ ixM (varM 4) (conM (.int 1)) δ T = .ok (eS S) T ∧ ixM (varM 4) (conM (.int 2)) δ T = .ok (eL M) T :=
  ⟨by simp [varM, h4, atI], by simp [varM, h4, atI], by simp [varM, h4, atI]⟩
theorem turnC_eq {δ : En} {T : Store} {b : Nat} {S : List (List Nat)} {M : List Nat} (g : Good b S M) (h4 : δ[4]? = some (some (eR b S M))) : turnC δ T = .ok (.loc (T.length + 1)) (T ++ [.lst [eN b, eS S, eL M], .lst (wrongs b S M T.length)]) := by
  obtain ⟨i0, i1, i2⟩ := ix4 (T := T) h4
  have h60 := g.n60
  have hml := g.ml
  have v4 : varM 4 δ T = .ok (eR b S M) T := by simp only [varM, h4]
  have w1 := tup_of (cons_eq i0 (cons_eq i1 nil_eq)) (by simp)
  have one : tupM (consM (conM (.int 1)) nilM) δ T = .ok (.tup [.int 1]) T := tup_of (cons_eq (by rfl) nil_eq) (by simp)
  have a2 : addM (ixM (varM 4) (conM (.int 2))) (tupM (consM (conM (.int 1)) nilM)) δ T = .ok (eL (M ++ [1])) T := by
    unfold addM bin2
    rw [i2, Res.bind_ok, one, Res.bind_ok]
    simp only [addV]
    rw [if_pos (by rw [sizeLine_eq]; simp; omega)]
    show _ = Res.ok (D.tup ((M ++ [1]).map eN)) T
    rw [List.map_append]
    rfl
  have w2 := tup_of (cons_eq i0 (cons_eq i1 (cons_eq a2 nil_eq))) (by simp)
  have a3 : sliceM (varM 4) (someO (conM (.int 1))) noO δ T = .ok (.tup [eS S, eL M]) T := by
    unfold sliceM
    rw [v4]
    simp [someO, noO, conM, cutD, HT.sIx]
  have w3 : addM (tupM (consM (conM (.int 1)) nilM)) (sliceM (varM 4) (someO (conM (.int 1))) noO) δ T = .ok (.tup [.int 1, eS S, eL M]) T := by
    unfold addM bin2
    rw [one, Res.bind_ok, a3, Res.bind_ok]
    simp only [addV]
    rw [if_pos (by rw [sizeLine_eq]; simp)]
    rfl
  have w4 : blM (orC listV listDV) (consM (varM 4) nilM) δ T = .ok (.loc T.length) (T ++ [.lst [eN b, eS S, eL M]]) := by
    simp only [blM, consM, nilM, v4, Res.bind_ok, orC, listV, seqOf]
  have := lst_of (cons_eq w1 (cons_eq w2 (cons_eq w3 (cons_eq w4 nil_eq)))) (by simp)
  rw [List.length_append, List.length_singleton, List.append_assoc] at this
  exact this
theorem tens {n : Nat} (h : 0 < n) (h2 : n ≤ 1000) {st : Store} : mulTV (.tup [.int 10]) (eN n) st = .ok (eL (List.replicate n 10)) st := by
  have key : ∀ n : Nat, (List.replicate n [D.int 10]).flatten = (List.replicate n 10).map eN := by
    intro n
    induction n with
    | zero => rfl
    | succ n ih => rw [List.replicate_succ, List.flatten_cons, ih]; rfl
  have e : mulTV (.tup [.int 10]) (eN n) st = if (n : Int) = 1 then .ok (.tup [.int 10]) st else if 0 < [D.int 10].length ∧ 2 ≤ (n : Int) ∧ (n : Int) ≤ 1000 ∧ [D.int 10].length ≤ 1000 then .ok (.tup (List.replicate (n : Int).toNat [D.int 10]).flatten) st else .stuck := rfl
  rw [e]
  by_cases q : n = 1
  · subst q
    rfl
  · rw [if_neg (by omega), if_pos ⟨by simp, by omega, by omega, by simp⟩]
    rw [Int.toNat_natCast, key]
theorem turnD_eq {δ : En} {T : Store} {b : Nat} {S : List (List Nat)} {M : List Nat} (g : Good b S M) (h4 : δ[4]? = some (some (eR b S M))) : turnD δ T = .ok (.tup [eN b, eS S, eL (List.replicate M.length 10)]) T := by
  obtain ⟨i0, i1, i2⟩ := ix4 (T := T) h4
  have h60 := g.n60
  have hml := g.ml
  have h0 := g.v.pos
  have ten : tupM (consM (conM (.int 10)) nilM) δ T = .ok (.tup [.int 10]) T := tup_of (cons_eq (by rfl) nil_eq) (by simp)
  have e1 : blM lenV (consM (ixM (varM 4) (conM (.int 2))) nilM) δ T = .ok (eN M.length) T := by
    simp [varM, h4]
  have a3 : mulTM (tupM (consM (conM (.int 10)) nilM)) (blM lenV (consM (ixM (varM 4) (conM (.int 2))) nilM)) δ T = .ok (eL (List.replicate M.length 10)) T := by
    unfold mulTM bin2
    rw [ten, Res.bind_ok, e1, Res.bind_ok, tens (by omega) (by omega)]
  exact tup_of (cons_eq i0 (cons_eq i1 (cons_eq a3 nil_eq))) (by simp)
noncomputable abbrev turnE : SM := ifS (notB (asB (gcM (callM 1 (F__law_is_refused) (consM (callM 2 (F__law_some) (consM (varM 1) (consM (varM 7) nilM))) nilM))))) (retS (conM (.bl false))) skipS
theorem if_no2 {c : BM} {a : SM} {δ : En} {st st1 : Store} (h : c δ st = .ok false st1) : ifS c a skipS δ st = .ok .nx δ st1 := by unfold ifS; rw [h]; rfl
theorem turnE_eq {δ : En} {T : Store} {l c m : Nat} {xs : List D} (h1 : δ[1]? = some (some (.loc l))) (h7 : δ[7]? = some (some (.loc m))) (h : HandC T l c) (hm : T[m]? = some (.lst xs)) (hml : m ≠ l) (h0 : 0 < xs.length) (hx1 : xs.length < 1000) (hx : ∀ x ∈ xs, x.lows T.length = true)
    (hbad : ∀ x ∈ xs, ∀ T', Dr l T.length T T' → F_is_row [x] T' = .ok (.bl false) T') : ∃ T', turnE δ T = .ok .nx δ T' ∧ HandC T' l c ∧ Dr l T.length T T' := by
  obtain ⟨x, hxm, T1, e1, k1, g1, l1⟩ := some_law h hm hml h0 hx1 hx
  have e2 := call1_eq (call2_eq h1 h7 e1) (refused_eq (hbad x hxm T1 g1))
  refine ⟨T1, if_no2 ?_, k1, g1⟩
  have e3 : gcM (callM 1 (F__law_is_refused) (consM (callM 2 (F__law_some) (consM (varM 1) (consM (varM 7) nilM))) nilM)) δ T = .ok (.bl true) T1 := gcM_eq e2 (gc_same l1 lows_bl)
  unfold notB asB
  rw [e3]
  rfl
end Fx
namespace Fx
open PySem PySem.Spec PyProof.Rows L2
theorem wrongs_lows {b : Nat} {S : List (List Nat)} {M : List Nat} {k n : Nat} (hk : k < n) : ∀ x ∈ wrongs b S M k ++ [.tup [eN b, eS S, eL (List.replicate M.length 10)]], x.lows n = true := by
  have t : ∀ ls : List Nat, D.lows n (.tup [eN b, eS S, eL ls]) = true := fun ls => eR_lows b S ls
  intro x hx
  unfold wrongs at hx
  simp only [List.cons_append, List.nil_append, List.mem_cons, List.not_mem_nil, or_false] at hx
  rcases hx with rfl | rfl | rfl | rfl | rfl
  · rw [lows_tup, lowsL_cons, lows_int, lowsL_cons, eS_lows, lowsL_nil]; rfl
  · exact t _
  · exact eR_lows 1 S M
  · rw [lows_loc]; exact decide_eq_true hk
  · exact t _
theorem wrongs_bad {b : Nat} {S : List (List Nat)} {M : List Nat} (g : Good b S M) {k : Nat} {ds : List D} : ∀ x ∈ wrongs b S M k ++ [.tup [eN b, eS S, eL (List.replicate M.length 10)]], ∀ T : Store, T[k]? = some (.lst ds) → F_is_row [x] T = .ok (.bl false) T := by
  have hml := g.ml
  have h0 := g.v.pos
  intro x hx T hk
  unfold wrongs at hx
  simp only [List.cons_append, List.nil_append, List.mem_cons, List.not_mem_nil, or_false] at hx
  rcases hx with rfl | rfl | rfl | rfl | rfl
  · exact F_is_row_pair
  · exact F_is_row_long g (by rw [List.length_append, List.length_singleton]; omega)
  · exact F_is_row_base
  · exact F_is_row_list hk
  · exact F_is_row_letters g (by simp; omega) (List.mem_replicate.mpr ⟨by omega, rfl⟩)
noncomputable abbrev turnS : SM := seqS (setS 4 turnRow) (seqS (setS 5 (callM 1 (F_least_row) (consM (varM 4) nilM))) (seqS (setS 6 (callM 1 (F_tails_for) (consM (varM 4) nilM))) (seqS turnA (seqS turnB (seqS (setS 7 turnC) (seqS (exprS (lmM appV (varM 7) (consM turnD nilM))) turnE))))))
theorem turn_eq {T : Store} {l c : Nat} {x0 x2 y3 y4 y5 y6 y7 : Option D} (h : HandC T l c) : ∃ (z4 z5 z6 z7 : Option D) (T' : Store), turnS [x0, some (.loc l), x2, y3, y4, y5, y6, y7] T = .ok .nx [x0, some (.loc l), x2, y3, z4, z5, z6, z7] T' ∧ HandC T' l c := by
  have hlt := h.lt
  obtain ⟨b, S, M, T1, e1, g, k1, g1, l1⟩ := turnRow_eq (δ := [x0, some (.loc l), x2, y3, y4, y5, y6, y7]) rfl h
  have L := leastF_ok g
  have e2 : callM 1 (F_least_row) (consM (varM 4) nilM) [x0, some (.loc l), x2, y3, some (eR b S M), y5, y6, y7] T1 = .ok (leastR b S M) T1 := call1_eq (a := eR b S M) (T1 := T1) rfl (F_least_row_eq g)
  have e3 : callM 1 (F_tails_for) (consM (varM 4) nilM) [x0, some (.loc l), x2, y3, some (eR b S M), some (leastR b S M), y6, y7] T1 = .ok (.tup ((tailsW b (leastF S M).1 (leastF S M).2).map eL)) T1 := call1_eq (a := eR b S M) (T1 := T1) rfl (F_tails_for_eq g)
  have e4 := turnA_eq (T := T1) L (δ := [x0, some (.loc l), x2, y3, some (eR b S M), some (leastR b S M), some (.tup ((tailsW b (leastF S M).1 (leastF S M).2).map eL)), y7]) rfl rfl
  have e5 := turnB_eq (T := T1) L (δ := [x0, some (.loc l), x2, y3, some (eR b S M), some (leastR b S M), some (.tup ((tailsW b (leastF S M).1 (leastF S M).2).map eL)), y7]) rfl rfl
  have e6 := turnC_eq (T := T1) g (δ := [x0, some (.loc l), x2, y3, some (eR b S M), some (leastR b S M), some (.tup ((tailsW b (leastF S M).1 (leastF S M).2).map eL)), y7]) rfl
  generalize hT2 : T1 ++ [.lst [eN b, eS S, eL M], .lst (wrongs b S M T1.length)] = T2 at e6
  have hw : T2[T1.length + 1]? = some (.lst (wrongs b S M T1.length)) := by rw [← hT2]; simp
  have hr : T2[T1.length]? = some (.lst [eN b, eS S, eL M]) := by rw [← hT2]; simp
  have hl2 : T2.length = T1.length + 2 := by rw [← hT2]; simp
  have k2 : HandC T2 l c := by rw [← hT2]; exact k1.app
  have e7 := turnD_eq (T := T2) g (δ := [x0, some (.loc l), x2, y3, some (eR b S M), some (leastR b S M), some (.tup ((tailsW b (leastF S M).1 (leastF S M).2).map eL)), some (.loc (T1.length + 1))]) rfl
  have e8 := app_nx (i := 7) (m := turnD) (δ := [x0, some (.loc l), x2, y3, some (eR b S M), some (leastR b S M), some (.tup ((tailsW b (leastF S M).1 (leastF S M).2).map eL)), some (.loc (T1.length + 1))]) rfl hw e7 hw (by rw [sizeLine_eq]; simp [wrongs])
  generalize hT3 : T2.set (T1.length + 1) (.lst (wrongs b S M T1.length ++ [.tup [eN b, eS S, eL (List.replicate M.length 10)]])) = T3 at e8
  have hl3 : T3.length = T1.length + 2 := by rw [← hT3]; simp [hl2]
  have k3 : HandC T3 l c := by rw [← hT3]; exact k2.gr (n := T1.length) (Gr.set (by omega) (by omega)) (by omega) (by omega)
  have hr3 : T3[T1.length]? = some (.lst [eN b, eS S, eL M]) := by rw [← hT3, List.getElem?_set_ne (by omega)]; exact hr
  have hw3 : T3[T1.length + 1]? = some (.lst (wrongs b S M T1.length ++ [.tup [eN b, eS S, eL (List.replicate M.length 10)]])) := by rw [← hT3, List.getElem?_set_self (by omega)]
  obtain ⟨T4, e9, k4, g4⟩ := turnE_eq (T := T3) (δ := [x0, some (.loc l), x2, y3, some (eR b S M), some (leastR b S M), some (.tup ((tailsW b (leastF S M).1 (leastF S M).2).map eL)), some (.loc (T1.length + 1))]) rfl rfl k3 hw3 (by omega) (by simp) (by simp [wrongs]) (wrongs_lows (by omega)) (fun x hx T' g' => wrongs_bad g x hx T' (g'.get (by omega) (by omega) hr3))
  exact ⟨_, _, _, _, T4, (seq_nx (set_nx e1)).trans <| (seq_nx (set_nx e2)).trans <| (seq_nx (set_nx e3)).trans <| (seq_nx e4).trans <| (seq_nx e5).trans <| (seq_nx (set_nx e6)).trans <| (seq_nx e8).trans e9, k4⟩
theorem law_eq {K : PySem.W.Frag} {d : D} {st : Store} {xs : List Int} (hx : xs.length ≤ 1000) (hs : sliceKM K (varM 0) noO (someO (conM (.int 63))) [some d, none, none] st = .ok (.loc st.length) (st ++ [.lst (xs.map D.int)])) :
    ∃ st', F_law K [d] st = .ok (.bl true) st' := by
  obtain ⟨l, c, T1, e1, k1⟩ := hand_law hx hs
  have s1 : setS 1 (callM 1 (F__law_hand K) (consM (varM 0) nilM)) [some d, none, none, none, none, none, none, none] st = .ok .nx [some d, some (.loc l), none, none, none, none, none, none] T1 := set_nx (call1_eq (a := d) (T1 := st) rfl e1)
  have e2 := lst2_eq (known1 (δ := [some d, some (.loc l), none, none, none, none, none, none]) (T := T1)) (known2 (δ := [some d, some (.loc l), none, none, none, none, none, none]) (T := T1))
  have hk := k1.app (t := [.lst [.tup [.tup []], .tup []]])
  have c3 := knownC_eq (δ := [some d, some (.loc l), some (.loc T1.length), none, none, none, none, none]) (T := T1 ++ [.lst [.tup [.tup []], .tup []]]) rfl (by simp)
  have s3 := if_no (a := retS (conM (.bl false))) c3
  have hr : range1I (consM (conM (.int 4)) nilM) [some d, some (.loc l), some (.loc T1.length), none, none, none, none, none] (T1 ++ [.lst [.tup [.tup []], .tup []]]) = .ok ⟨(List.range 4).map eN, []⟩ (T1 ++ [.lst [.tup [.tup []], .tup []]]) := range1_eq (by rfl) (by omega)
  have lp : ∀ xs : List D, ∃ (z3 z4 z5 z6 z7 : Option D) (T' : Store), forGo [] (nameG 3) turnS xs [some d, some (.loc l), some (.loc T1.length), none, none, none, none, none] (T1 ++ [.lst [.tup [.tup []], .tup []]]) = .ok .nx [some d, some (.loc l), some (.loc T1.length), z3, z4, z5, z6, z7] T' := fun xs =>
    forGo_rule (gs := []) (g := nameG 3) (b := turnS) (Q := fun r => ∃ (z3 z4 z5 z6 z7 : Option D) (T' : Store), r = .ok .nx [some d, some (.loc l), some (.loc T1.length), z3, z4, z5, z6, z7] T') xs
      (fun _ δ T => ∃ (z3 z4 z5 z6 z7 : Option D), δ = [some d, some (.loc l), some (.loc T1.length), z3, z4, z5, z6, z7] ∧ HandC T l c)
      (by
        rintro x xs δ T ⟨z3, z4, z5, z6, z7, rfl, hh⟩
        obtain ⟨w4, w5, w6, w7, T', e, hh'⟩ := turn_eq (x0 := some d) (x2 := some (.loc T1.length)) (y3 := some x) (y4 := z4) (y5 := z5) (y6 := z6) (y7 := z7) hh
        refine ⟨gok_nil, _, T, rfl, ?_⟩
        rw [show (List.set [some d, some (.loc l), some (.loc T1.length), z3, z4, z5, z6, z7] 3 (some x)) = [some d, some (.loc l), some (.loc T1.length), some x, z4, z5, z6, z7] from rfl, e]
        exact ⟨some x, w4, w5, w6, w7, rfl, hh'⟩)
      (by
        rintro δ T ⟨z3, z4, z5, z6, z7, rfl, hh⟩
        exact ⟨gok_nil, _, _, _, _, _, T, rfl⟩) _ _ ⟨none, none, none, none, none, rfl, hk⟩
  obtain ⟨z3, z4, z5, z6, z7, T', e4⟩ := lp ((List.range 4).map eN)
  have e5 : retS (conM (.bl true)) [some d, some (.loc l), some (.loc T1.length), z3, z4, z5, z6, z7] T' = .ok (.rt (.bl true)) [some d, some (.loc l), some (.loc T1.length), z3, z4, z5, z6, z7] T' := ret_nx rfl
  have run := run_rt (N := 8) (m := m_law K) (ds := [d]) ((seq_nx s1).trans <| (seq_nx (set_nx e2)).trans <| (seq_nx s3).trans <| (seq_nx (for_nx hr e4)).trans e5)
  unfold F_law gcF
  rw [run]
  simp only [gc]
  split
  · rw [if_pos lows_bl]; exact ⟨_, rfl⟩
  · exact ⟨_, rfl⟩
end Fx
namespace Fx
open PySem PySem.Spec PyProof.Rows L2
theorem law_end {K : PySem.W.Frag} (ns : List Int) (hl : ns.length ≤ 63) : (∃ st', F_law K [.loc 0] [.rdl (ns.map D.int)] = .ok (.bl true) st') ∧ ∀ a, KList K a ns → ∃ st', F_law K [.kl a] [] = .ok (.bl true) st' := by
  have cut : cutD (ns.map D.int) none (some 63) = ns.map D.int := by
    unfold cutD
    simp [HT.sIx]
    exact List.take_of_length_le (by simp; omega)
  refine ⟨law_eq (xs := ns) (by omega) ?_, fun a ha => law_eq (xs := ns) (by omega) ?_⟩
  · unfold sliceKM
    simp [varM, noO, someO, conM, cut]
  · unfold sliceKM
    simp [varM, noO, someO, conM, cut, klInts_of ha]
end Fx
namespace Hd
open PySem PySem.Spec PyProof.Rows L2
def d_is_integer : He.DefD := ⟨("is_integer", none), "is_integer", "is_integer", defArgs Fx.s_is_integer, defBody Fx.s_is_integer, defScope Fx.s_is_integer, [], []⟩
def d_is_within : He.DefD := ⟨("is_within", none), "is_within", "is_within", defArgs Fx.s_is_within, defBody Fx.s_is_within, defScope Fx.s_is_within, [], []⟩
def d_is_base : He.DefD := ⟨("is_base", none), "is_base", "is_base", defArgs Fx.s_is_base, defBody Fx.s_is_base, defScope Fx.s_is_base, [], []⟩
def d_reached : He.DefD := ⟨("reached", none), "reached", "reached", defArgs Fx.s_reached, defBody Fx.s_reached, defScope Fx.s_reached, [], []⟩
def d_renumbered : He.DefD := ⟨("renumbered", none), "renumbered", "renumbered", defArgs Fx.s_renumbered, defBody Fx.s_renumbered, defScope Fx.s_renumbered, [], []⟩
def d_classes_of : He.DefD := ⟨("classes_of", none), "classes_of", "classes_of", defArgs Fx.s_classes_of, defBody Fx.s_classes_of, defScope Fx.s_classes_of, [], []⟩
def d_least : He.DefD := ⟨("least", none), "least", "least", defArgs Fx.s_least, defBody Fx.s_least, defScope Fx.s_least, [], []⟩
def d_are_steps : He.DefD := ⟨("are_steps", none), "are_steps", "are_steps", defArgs Fx.s_are_steps, defBody Fx.s_are_steps, defScope Fx.s_are_steps, [], []⟩
def d_is_proof : He.DefD := ⟨("is_proof", none), "is_proof", "is_proof", defArgs Fx.s_is_proof, defBody Fx.s_is_proof, defScope Fx.s_is_proof, [], []⟩
def d_is_letter : He.DefD := ⟨("is_letter", none), "is_letter", "is_letter", defArgs Fx.s_is_letter, defBody Fx.s_is_letter, defScope Fx.s_is_letter, [], []⟩
def d_is_row : He.DefD := ⟨("is_row", none), "is_row", "is_row", defArgs Fx.s_is_row, defBody Fx.s_is_row, defScope Fx.s_is_row, [], []⟩
def d_check_row : He.DefD := ⟨("check_row", none), "check_row", "check_row", defArgs Fx.s_check_row, defBody Fx.s_check_row, defScope Fx.s_check_row, [], []⟩
def d_raw_least_row : He.DefD := ⟨("raw_least_row", none), "raw_least_row", "raw_least_row", defArgs Fx.s_raw_least_row, defBody Fx.s_raw_least_row, defScope Fx.s_raw_least_row, [], []⟩
def d_least_row : He.DefD := ⟨("least_row", none), "least_row", "least_row", defArgs Fx.s_least_row, defBody Fx.s_least_row, defScope Fx.s_least_row, [], []⟩
def d_numbered : He.DefD := ⟨("numbered", none), "numbered", "numbered", defArgs Fx.s_numbered, defBody Fx.s_numbered, defScope Fx.s_numbered, [], []⟩
def d_next_tail : He.DefD := ⟨("next_tail", none), "next_tail", "next_tail", defArgs Fx.s_next_tail, defBody Fx.s_next_tail, defScope Fx.s_next_tail, [], []⟩
def d_raw_tails : He.DefD := ⟨("raw_tails", none), "raw_tails", "raw_tails", defArgs Fx.s_raw_tails, defBody Fx.s_raw_tails, defScope Fx.s_raw_tails, [], []⟩
def d_tails_for : He.DefD := ⟨("tails_for", none), "tails_for", "tails_for", defArgs Fx.s_tails_for, defBody Fx.s_tails_for, defScope Fx.s_tails_for, [], []⟩
def d__law_draw : He.DefD := ⟨("_law_draw", none), "_law_draw", "_law_draw", defArgs Fx.s__law_draw, defBody Fx.s__law_draw, defScope Fx.s__law_draw, [], []⟩
def d__law_some : He.DefD := ⟨("_law_some", none), "_law_some", "_law_some", defArgs Fx.s__law_some, defBody Fx.s__law_some, defScope Fx.s__law_some, [], []⟩
def d__law_is : He.DefD := ⟨("_law_is", none), "_law_is", "_law_is", defArgs Fx.s__law_is, defBody Fx.s__law_is, defScope Fx.s__law_is, [], []⟩
def d__law_hand : He.DefD := ⟨("_law_hand", none), "_law_hand", "_law_hand", defArgs Fx.s__law_hand, defBody Fx.s__law_hand, defScope Fx.s__law_hand, [], []⟩
def d__law_row : He.DefD := ⟨("_law_row", none), "_law_row", "_law_row", defArgs Fx.s__law_row, defBody Fx.s__law_row, defScope Fx.s__law_row, [], []⟩
def d__law_behind : He.DefD := ⟨("_law_behind", none), "_law_behind", "_law_behind", defArgs Fx.s__law_behind, defBody Fx.s__law_behind, defScope Fx.s__law_behind, [], []⟩
def d__law_kinds : He.DefD := ⟨("_law_kinds", none), "_law_kinds", "_law_kinds", defArgs Fx.s__law_kinds, defBody Fx.s__law_kinds, defScope Fx.s__law_kinds, [], []⟩
def d__law_tails : He.DefD := ⟨("_law_tails", none), "_law_tails", "_law_tails", defArgs Fx.s__law_tails, defBody Fx.s__law_tails, defScope Fx.s__law_tails, [], []⟩
def d__law_is_refused : He.DefD := ⟨("_law_is_refused", none), "_law_is_refused", "_law_is_refused", defArgs Fx.s__law_is_refused, defBody Fx.s__law_is_refused, defScope Fx.s__law_is_refused, [], []⟩
def d_law : He.DefD := ⟨("law", none), "law", "law", defArgs Fx.s_law, defBody Fx.s_law, defScope Fx.s_law, [], []⟩
def fn : List He.DefD := [d_is_integer, d_is_within, d_is_base, d_reached, d_renumbered, d_classes_of, d_least, d_are_steps, d_is_proof, d_is_letter, d_is_row, d_check_row, d_raw_least_row, d_least_row, d_numbered, d_next_tail, d_raw_tails, d_tails_for, d__law_draw, d__law_some, d__law_is, d__law_hand, d__law_row, d__law_behind, d__law_kinds, d__law_tails, d__law_is_refused, d_law]
def fa : List He.Fa := [.glo "is_integer", .glo "is_within", .glo "is_base", .glo "reached", .glo "renumbered", .glo "classes_of", .glo "least", .glo "are_steps", .glo "is_proof", .glo "is_letter", .glo "is_row", .glo "check_row", .glo "raw_least_row", .glo "least_row", .glo "numbered", .glo "next_tail", .glo "raw_tails", .glo "tails_for", .glo "_law_draw", .glo "_law_some", .glo "_law_is", .glo "_law_hand", .glo "_law_row", .glo "_law_behind", .glo "_law_kinds", .glo "_law_tails", .glo "_law_is_refused", .glo "law", .free "ValueError", .free "abs", .free "all", .free "bool", .free "enumerate", .free "int", .free "isinstance", .free "len", .free "list", .free "max", .free "range", .free "repr", .free "set", .free "sorted", .free "str", .free "tuple", .free "zip", .glo "PlaceError", .exc "PlaceError", .exm "PlaceError" "PlaceError" true, .exm "PlaceError" "NoRow" false, .glo "NoRow", .exc "NoRow", .exm "NoRow" "PlaceError" true, .exm "NoRow" "NoRow" true, .int "MOST_BASE" 16, .int "MOST_ROW" 60]
abbrev R : PySem.W.OpenRow := PySem.W.OpenLaw.row PySem.Challenge.rw_placefigures_k97_whole_tails_that_part_s
abbrev hk : PySem.W.Hook := He.hookD 4 fa fn
def ob (s : PySem.W.SharedT) : He.AlD := He.obsDG 4 fa fn (HandSHeadRun.getT s)
theorem ob_eq (s : PySem.W.SharedT) : ob s = hk.obs s.abs := He.obsDG_eq (HandSHeadRun.getT_eq s)
def loose0 : List PySem.Str := ["__name__", "is_integer", "is_within", "is_base", "reached", "renumbered", "classes_of", "least", "are_steps", "is_proof", "is_letter", "is_row", "check_row", "raw_least_row", "least_row", "numbered", "next_tail", "raw_tails", "tails_for", "_law_draw", "_law_some", "_law_is", "_law_hand", "_law_row", "_law_behind", "_law_kinds", "_law_tails", "_law_is_refused", "PlaceError", "NoRow", "MOST_BASE", "MOST_ROW"]
def loose : List PySem.Str := loose0
set_option maxHeartbeats 0 in
theorem run (w : World) : HandSHeadRun.RunEq R (PySem.W.view R.prog [38]) hk ob 20000 loose w := by
  intro os
  kernel_rfl
theorem facts {K : PySem.W.Frag} {mg : Str → Option Value} {h : Heap} (X : K.In h) (G : h.Ns mainGlobals mg) (c : He.SaysD fa fn K) : ∃ fds, Fx.Fcs K mg fds := by
  obtain ⟨f0, F0⟩ := c.def_ 0 (d := d_is_integer) rfl
  obtain ⟨f1, F1⟩ := c.def_ 1 (d := d_is_within) rfl
  obtain ⟨f2, F2⟩ := c.def_ 2 (d := d_is_base) rfl
  obtain ⟨f3, F3⟩ := c.def_ 3 (d := d_reached) rfl
  obtain ⟨f4, F4⟩ := c.def_ 4 (d := d_renumbered) rfl
  obtain ⟨f5, F5⟩ := c.def_ 5 (d := d_classes_of) rfl
  obtain ⟨f6, F6⟩ := c.def_ 6 (d := d_least) rfl
  obtain ⟨f7, F7⟩ := c.def_ 7 (d := d_are_steps) rfl
  obtain ⟨f8, F8⟩ := c.def_ 8 (d := d_is_proof) rfl
  obtain ⟨f9, F9⟩ := c.def_ 9 (d := d_is_letter) rfl
  obtain ⟨f10, F10⟩ := c.def_ 10 (d := d_is_row) rfl
  obtain ⟨f11, F11⟩ := c.def_ 11 (d := d_check_row) rfl
  obtain ⟨f12, F12⟩ := c.def_ 12 (d := d_raw_least_row) rfl
  obtain ⟨f13, F13⟩ := c.def_ 13 (d := d_least_row) rfl
  obtain ⟨f14, F14⟩ := c.def_ 14 (d := d_numbered) rfl
  obtain ⟨f15, F15⟩ := c.def_ 15 (d := d_next_tail) rfl
  obtain ⟨f16, F16⟩ := c.def_ 16 (d := d_raw_tails) rfl
  obtain ⟨f17, F17⟩ := c.def_ 17 (d := d_tails_for) rfl
  obtain ⟨f18, F18⟩ := c.def_ 18 (d := d__law_draw) rfl
  obtain ⟨f19, F19⟩ := c.def_ 19 (d := d__law_some) rfl
  obtain ⟨f20, F20⟩ := c.def_ 20 (d := d__law_is) rfl
  obtain ⟨f21, F21⟩ := c.def_ 21 (d := d__law_hand) rfl
  obtain ⟨f22, F22⟩ := c.def_ 22 (d := d__law_row) rfl
  obtain ⟨f23, F23⟩ := c.def_ 23 (d := d__law_behind) rfl
  obtain ⟨f24, F24⟩ := c.def_ 24 (d := d__law_kinds) rfl
  obtain ⟨f25, F25⟩ := c.def_ 25 (d := d__law_tails) rfl
  obtain ⟨f26, F26⟩ := c.def_ 26 (d := d__law_is_refused) rfl
  obtain ⟨f27, F27⟩ := c.def_ 27 (d := d_law) rfl
  refine ⟨fun i => [f0, f1, f2, f3, f4, f5, f6, f7, f8, f9, f10, f11, f12, f13, f14, f15, f16, f17, f18, f19, f20, f21, f22, f23, f24, f25, f26, f27].getD i f0, ?_⟩
  exact {
    d_is_integer := F0,
    d_is_within := F1,
    d_is_base := F2,
    d_reached := F3,
    d_renumbered := F4,
    d_classes_of := F5,
    d_least := F6,
    d_are_steps := F7,
    d_is_proof := F8,
    d_is_letter := F9,
    d_is_row := F10,
    d_check_row := F11,
    d_raw_least_row := F12,
    d_least_row := F13,
    d_numbered := F14,
    d_next_tail := F15,
    d_raw_tails := F16,
    d_tails_for := F17,
    d__law_draw := F18,
    d__law_some := F19,
    d__law_is := F20,
    d__law_hand := F21,
    d__law_row := F22,
    d__law_behind := F23,
    d__law_kinds := F24,
    d__law_tails := F25,
    d__law_is_refused := F26,
    d_law := F27,
    g_is_integer := He.glo_ok X G (c.fact 0 (f := .glo "is_integer") rfl),
    g_is_within := He.glo_ok X G (c.fact 1 (f := .glo "is_within") rfl),
    g_is_base := He.glo_ok X G (c.fact 2 (f := .glo "is_base") rfl),
    g_reached := He.glo_ok X G (c.fact 3 (f := .glo "reached") rfl),
    g_renumbered := He.glo_ok X G (c.fact 4 (f := .glo "renumbered") rfl),
    g_classes_of := He.glo_ok X G (c.fact 5 (f := .glo "classes_of") rfl),
    g_least := He.glo_ok X G (c.fact 6 (f := .glo "least") rfl),
    g_are_steps := He.glo_ok X G (c.fact 7 (f := .glo "are_steps") rfl),
    g_is_proof := He.glo_ok X G (c.fact 8 (f := .glo "is_proof") rfl),
    g_is_letter := He.glo_ok X G (c.fact 9 (f := .glo "is_letter") rfl),
    g_is_row := He.glo_ok X G (c.fact 10 (f := .glo "is_row") rfl),
    g_check_row := He.glo_ok X G (c.fact 11 (f := .glo "check_row") rfl),
    g_raw_least_row := He.glo_ok X G (c.fact 12 (f := .glo "raw_least_row") rfl),
    g_least_row := He.glo_ok X G (c.fact 13 (f := .glo "least_row") rfl),
    g_numbered := He.glo_ok X G (c.fact 14 (f := .glo "numbered") rfl),
    g_next_tail := He.glo_ok X G (c.fact 15 (f := .glo "next_tail") rfl),
    g_raw_tails := He.glo_ok X G (c.fact 16 (f := .glo "raw_tails") rfl),
    g_tails_for := He.glo_ok X G (c.fact 17 (f := .glo "tails_for") rfl),
    g__law_draw := He.glo_ok X G (c.fact 18 (f := .glo "_law_draw") rfl),
    g__law_some := He.glo_ok X G (c.fact 19 (f := .glo "_law_some") rfl),
    g__law_is := He.glo_ok X G (c.fact 20 (f := .glo "_law_is") rfl),
    g__law_hand := He.glo_ok X G (c.fact 21 (f := .glo "_law_hand") rfl),
    g__law_row := He.glo_ok X G (c.fact 22 (f := .glo "_law_row") rfl),
    g__law_behind := He.glo_ok X G (c.fact 23 (f := .glo "_law_behind") rfl),
    g__law_kinds := He.glo_ok X G (c.fact 24 (f := .glo "_law_kinds") rfl),
    g__law_tails := He.glo_ok X G (c.fact 25 (f := .glo "_law_tails") rfl),
    g__law_is_refused := He.glo_ok X G (c.fact 26 (f := .glo "_law_is_refused") rfl),
    g_law := He.glo_ok X G (c.fact 27 (f := .glo "law") rfl),
    n_ValueError := He.free_ok X G (c.fact 28 (f := .free "ValueError") rfl),
    n_abs := He.free_ok X G (c.fact 29 (f := .free "abs") rfl),
    n_all := He.free_ok X G (c.fact 30 (f := .free "all") rfl),
    n_bool := He.free_ok X G (c.fact 31 (f := .free "bool") rfl),
    n_enumerate := He.free_ok X G (c.fact 32 (f := .free "enumerate") rfl),
    n_int := He.free_ok X G (c.fact 33 (f := .free "int") rfl),
    n_isinstance := He.free_ok X G (c.fact 34 (f := .free "isinstance") rfl),
    n_len := He.free_ok X G (c.fact 35 (f := .free "len") rfl),
    n_list := He.free_ok X G (c.fact 36 (f := .free "list") rfl),
    n_max := He.free_ok X G (c.fact 37 (f := .free "max") rfl),
    n_range := He.free_ok X G (c.fact 38 (f := .free "range") rfl),
    n_repr := He.free_ok X G (c.fact 39 (f := .free "repr") rfl),
    n_set := He.free_ok X G (c.fact 40 (f := .free "set") rfl),
    n_sorted := He.free_ok X G (c.fact 41 (f := .free "sorted") rfl),
    n_str := He.free_ok X G (c.fact 42 (f := .free "str") rfl),
    n_tuple := He.free_ok X G (c.fact 43 (f := .free "tuple") rfl),
    n_zip := He.free_ok X G (c.fact 44 (f := .free "zip") rfl),
    g_PlaceError := He.glo_ok X G (c.fact 45 (f := .glo "PlaceError") rfl),
    e_PlaceError := (c.fact 46 (f := .exc "PlaceError") rfl),
    m_PlaceError_PlaceError := He.exm_ok (c.fact 47 (f := .exm "PlaceError" "PlaceError" true) rfl),
    m_PlaceError_NoRow := He.exm_ok (c.fact 48 (f := .exm "PlaceError" "NoRow" false) rfl),
    g_NoRow := He.glo_ok X G (c.fact 49 (f := .glo "NoRow") rfl),
    e_NoRow := (c.fact 50 (f := .exc "NoRow") rfl),
    m_NoRow_PlaceError := He.exm_ok (c.fact 51 (f := .exm "NoRow" "PlaceError" true) rfl),
    m_NoRow_NoRow := He.exm_ok (c.fact 52 (f := .exm "NoRow" "NoRow" true) rfl),
    c_MOST_BASE := He.int_ok X G (c.fact 53 (f := .int "MOST_BASE" 16) rfl),
    c_MOST_ROW := He.int_ok X G (c.fact 54 (f := .int "MOST_ROW" 60) rfl) }
end Hd
open PySem PySem.W PySem.Calls PyProof.Rows
set_option maxRecDepth 100000 in
set_option maxHeartbeats 8000000 in
theorem PySem.Challenge.cw_placefigures_k97_whole_tails_that_part_s_holds : PySem.Challenge.rw_placefigures_k97_whole_tails_that_part_s.Holds := by
  w_on; o_law
  refine HandSHeadRun.head_any (r := OpenLaw.row PySem.Challenge.rw_placefigures_k97_whole_tails_that_part_s) (q := view (OpenLaw.row PySem.Challenge.rw_placefigures_k97_whole_tails_that_part_s).prog [38]) (H := Hd.hk) (ob := Hd.ob) (M := 20000) (loose := Hd.loose) (d := HandSHeadRun.topDef (OpenLaw.row PySem.Challenge.rw_placefigures_k97_whole_tails_that_part_s).prog 38) (kwd := []) Hd.ob_eq
    (by kernel_rfl) (fun s => by kernel_rfl) Hd.run (by kernel_rfl) (by kernel_rfl) (by kernel_rfl) (by rfl) (by first | assumption | decide +kernel) (by decide +kernel) ⟨rfl, rfl, rfl, rfl, rfl, by decide +kernel⟩ ?hw ?hc
  case hw => w_witness2
  case hc =>
    refine Fx.walk_ofG (l := PySem.Challenge.rw_placefigures_k97_whole_tails_that_part_s) (n := 63) (k := 8) (x := "script") rfl (by decide) (by kernel_rfl) ⟨rfl, by decide, by decide⟩ ?F
    intro w mg fa h Y G hmg0
    obtain ⟨K, KX, c⟩ := Y
    have hmg : mg ("law" : PySem.Str) = some (.ref fa) := by
      have e : (HandSHeadRun.topDef (OpenLaw.row PySem.Challenge.rw_placefigures_k97_whole_tails_that_part_s).prog 38).name = ("law" : PySem.Str) := by kernel_rfl
      rw [← e]
      exact hmg0
    obtain ⟨fds, C⟩ := Hd.facts KX G c
    have hfa := hmg.symm.trans C.g_law
    cases hfa
    have b := L2.FunD.bindsA (ps := ["script"]) C.d_law fun _ _ _ _ _ _ us hl => match us, hl with | [_], _ => rfl
    exact ⟨K, fds 27, Fx.F_law K, KX, fun s u => b s [u] rfl, fun ns hl => Fx.law_end ns hl, fun base _ _ => Fx.fg_law C⟩
